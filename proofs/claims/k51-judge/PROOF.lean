import PyProof.Rows.All
import Wide.All
import OpenK.AllK
import Wide.FinOn
import KE.KExcSuper
import KE.KExcIs
import KE.GoesEnum
import HandS.ForExc
import HandS.Dict
import HandS.Iter
import HandS.Conv
import HandS.IsInst
import HandS.ExcSuper
import HandS.ExcInit
import HandS.ExcField
import HandS.WordsDict
import PySem.Challenge.RW_countermarch_k51_whole_any_schedule_is_j
import HandS.Walk
import HandS.ExcOwn
import HandS.ExcIs
set_option Elab.async false
set_option linter.all false
set_option maxRecDepth 100000
set_option maxHeartbeats 4000000
/-! # The errors of the program: an own class over an own class over ValueError, whose __init__ says super().__init__(text) and then stores its fields -/
namespace PySem
namespace KtX
open PySem.W PySem.Calls PyProof.Rows PySem.HandSPX L2

/-- what the written part says of one of the two error classes, at C; its __init__ at fI, the code at cda, the class cell at cc -/
structure ErrTxt (P : Program) (K : Frag) (mg : Str → Option Value) (name qual : Str) (st : Stmt) (C fI cc cda : Addr) : Prop where
  gC : mg name = some (.ref C)
  cls : ∃ nm q N bs bm sn sub ab col dd k0 k1 k2 k3 k5, K.lookup C = some (excClassObj nm q C N bs bm true sn sub ab col dd k0 k1 k2 k3 k5 "ValueError.__new__") ∧ refsVE bm = true
  sa : findIn K (.ref C) "__setattr__" = some (some (.builtin "object.__setattr__"))
  ga : findIn K (.ref C) "__getattribute__" = some (some (.builtin "BaseException.__getattribute__"))
  gg : findIn K (.ref C) "__getattr__" = some none
  noR : findIn K (.ref C) "reason" = some none
  noN : findIn K (.ref C) "number" = some none
  iC : findIn K (.ref C) "__init__" = some (some (.ref fI))
  tC : typeIn K (.ref fI) = some (.type "function")
  kC : keepIn K (.ref C) = true
  exC : subIn K (.ref C) (.type "BaseException") = some true
  veC : subIn K (.ref C) (.type "ValueError") = some true
  tyC : typeIn K (.ref C) = some (.type "type")
  hdC : hasDictIn K C = true
  up : ks_superIn K C C "__init__" = some (some (.builtin "ValueError.__init__"))
  any : nsIn K cStatics "thirdparty.any" = some none
  selfC : mroIn K C (.ref C) = some true
  obC : mroIn K C (.type "object") = some true
  sup : mg "super" = none
  clC : findIn K (.ref C) "__class__" = some (some (.builtin "object.__class__"))
  clG : specialIn K (.builtin "object.__class__") "__get__" = some (some (.builtin "getset_descriptor.__get__"))
  clT : takesIn K (.builtin "object.__class__") = some true
  cell : ∃ (cl : Value) (cld : Option Addr) (csl : Array (Option Value)), K.lookup cc = some ⟨cl, cld, .cell (some (.ref C)), csl⟩
  code : ∃ (ccl : Value) (cdd : Option Addr) (vs : Array Value) (ccs : Array (Option Value)) (file : Str) (tf : Tok), K.lookup cda = some ⟨ccl, cdd, .fields vs, ccs⟩ ∧ vs[2]? = some (.str file tf) ∧ ((P.main.file : Str) == file) = true
  top : (P.main.scope.names.lookup ("super" : Str)).isSome = false
  fn : ∃ (oc : Value) (od : Option Addr) (doc pm : Value) (an : Option Addr) (ct : Value) (osl : Array (Option Value)),
    K.lookup fI = some ⟨oc, od, .func (ksFn "__init__" qual (defArgs st) (defBody st) (defScope st) .none .none doc pm an (.ref cda) ct cc), osl⟩ ∧ codeIn K (.ref cda) qual = true
theorem ErrTxt.clI {P : Program} {K : Frag} {mg : Str → Option Value} {name qual : Str} {st : Stmt} {C fI cc cda : Addr} (T : ErrTxt P K mg name qual st C fI cc cda) : ∃ cd, clsIn K C = some cd ∧ refsVE cd.mro = true ∧ cd.hasDict = true := by
  obtain ⟨nm, q, N, bs, bm, sn, sub, ab, col, dd, k0, k1, k2, k3, k5, hC, hbm⟩ := T.cls
  refine ⟨{ name := nm, bases := bs, mro := .ref C :: bm, ns := N, qualname := q, hasDict := true, slotNames := sn, subclasses := sub, abstract := ab, collection := col, hasDel := false }, ?_, hbm, rfl⟩
  unfold clsIn
  rw [hC] <;> rfl

/-! ### the bound built-in __init__ called -/
section
variable {prog : Program} {w : World} {A : Around} {E : Value → Shared → Prop} {h : Heap} {g : Array GenState} {d : Drawn} {t : Nat} {os : OsState}
variable {nm q : Str} {C N : Addr} {bs bm : List Value} {hdct : Bool} {sn : List Str} {sub : List Value} {ab : Bool} {col : Option Bool} {dd : Option Addr} {k0 k1 k2 k3 k5 : Option Value}
theorem mw_run {u e t0 : Addr} {rest : List Value} {Q : Value → Shared → Prop}
    (hC : h.get? C = some (excClassObj nm q C N bs bm hdct sn sub ab col dd k0 k1 k2 k3 k5 "ValueError.__new__")) (he : h.get? e = some (excO C t0)) (hu : h.get? u = some (kxs_mw "ValueError.__init__" e)) (hz : rest.length ≤ sizeLine)
    (hq : ∀ h' t1, (∀ b o, b ≠ e → h.get? b = some o → h'.get? b = some o) → h'.get? e = some (excO C t1) → Q .none ⟨h', g, d, t, os⟩) :
    wpAny (model prog w) A (call (.ref u) rest) Q E ⟨h, g, d, t, os⟩ := by
  refine wpAny_call (codeAny_of_tree ?_)
  show wpAny _ A.in1 (callAny (.ref u) ⟨rest, []⟩) _ _ _
  simp only [callAny]
  refine wpAny_bind (wpAny_load hu ?_)
  have isMw : (Value.type "method-wrapper" == Value.type "method" || Value.type "method-wrapper" == Value.type "builtin_function_or_method" || Value.type "method-wrapper" == Value.type "method-wrapper") = true := by decide
  simp only [kxs_mw, isMw, if_true]
  refine KFB.if_so (by decide) ?_
  refine wpAny_bind (ESX.check_bound F.excBase_ValueError hC he rfl ?_)
  refine wpAny_bind (wpAny_pure (wpAny_pure ?_))
  refine ⟨Code.quiet_builtin _ (by decide +kernel), codeAny_builtin F.excBase_ValueError.initEntry ?_⟩
  rw [Around.under_plainId F.excBase_ValueError.init.plain _]
  wp_walk
  refine hq _ h.objs.size (fun b o hb ho => ?_) ?_
  · exact (Heap.get?_update_other _ _ (Ne.symm hb)).trans (Heap.get?_push_of_some _ ho)
  · exact (Heap.get?_update_self _ (Heap.get?_push_of_some _ he) rfl)
end

/-! ### super().__init__(text), the first statement -/
section
variable {prog : Program} {w : World} {A : Around} {E : Value → Shared → Prop} {s : Shared} {K : Frag} {mg mb : Str → Option Value} {name qual : Str} {st : Stmt} {C fI cc cda : Addr}
theorem super_first {body : List Stmt} {scope : Scope} {L x t0 : Addr} {m : Str → Option Value} {msg : Str} {j : Nat} {p0 p1 p2 p3 p4 p5 : Pos} {ar : Arg} {Q : Flow → Shared → Prop} (T : ErrTxt prog K mg name qual st C fI cc cda)
    (X : K.In s.heap) (G : s.heap.Ns mainGlobals mg) (B : s.heap.Ns builtinsNs mb) (hb : mb "super" = bootBuiltins "super") (hn : s.heap.Ns L m) (hself : m ar.arg = some (.ref x)) (hx : s.heap.get? x = some (excO C t0))
    (hp : ((defArgs st).posonlyargs ++ (defArgs st).args).head? = some ar)
    {pl : Sem Bool} (he : eval (.Call (.Attribute (.Call (.Name "super" p0) [] [] p1) "__init__" p2) [.Constant (.str msg) j p3] [] p4) (ksEnv qual scope L fI (.ref cda) cc) = (do
      let ov ← attributeBase (.Call (.Name "super" p0) [] [] p1) "__init__" (ksEnv qual scope L fI (.ref cda) cc) (eval (.Call (.Name "super" p0) [] [] p1) (ksEnv qual scope L fI (.ref cda) cc))
      standAt p2.atName
      let (f, first) ← holding [ov] (getMethod ov "__init__" pl)
      callWith p4 f first (backTo p4 (starEach [.Constant (.str msg) j p3] (ksEnv qual scope L fI (.ref cda) cc))) []))
    (hsw : swapsWith (.Call (.Attribute (.Call (.Name "super" p0) [] [] p1) "__init__" p2) [.Constant (.str msg) j p3] [] p4) none p5.line (ksEnv qual scope L fI (.ref cda) cc) = pure false)
    (hk : scope.kind = .function) (hks : scope.names.lookup ("super" : Str) = some .globalImplicit) (hkc : scope.names.lookup ("__class__" : Str) = some .free) (hka : scope.names.lookup ar.arg = some .local)
    (hq : ∀ h' tk t1, (∀ b o, b ≠ x → s.heap.get? b = some o → h'.get? b = some o) → h'.get? x = some (excO C t1) → Q .next { s with heap := h', toks := tk }) :
    _root_.PySem.wpAt (model prog w) A (.func body (ksEnv qual scope L fI (.ref cda) cc)) (exec (.Expr (.Call (.Attribute (.Call (.Name "super" p0) [] [] p1) "__init__" p2) [.Constant (.str msg) j p3] [] p4) p5) (ksEnv qual scope L fI (.ref cda) cc)) Q E s := by
  obtain ⟨oc, od, doc, pm, an, ct, osl, hf, hcd⟩ := T.fn
  obtain ⟨ccl, cdd, vs, ccs, file, tf, hcode, hvs, hfile⟩ := T.code
  obtain ⟨cl, cld, csl, hcell⟩ := T.cell
  obtain ⟨nm, q, N, bs, bm, sn, sub, ab, col, dd, k0, k1, k2, k3, k5, hC, hbm⟩ := T.cls
  refine ks_wpAt_Expr_any (ks_wpAt_MethodCall (ks_wpAt_super_base hks hkc (by decide) rfl (X _ _ hf) rfl hp rfl (X _ _ hcode) rfl hvs hfile T.top ?_) he) (by simp [interactive, hk]) hsw
  refine ks_loadName_global hk hks (loadGlobal_builtin (env := ksEnv qual scope L fI (.ref cda) cc) G T.sup B (hb.trans (by first | exact PyProof.Rows.Boot.«super» | rfl | kernel_rfl)) ⟨rfl, ?_⟩)
  refine wpAny_loadName_free hk hkc rfl ⟨_, X _ _ hcell, rfl⟩ ?_
  refine wpAny_loadName_local hk hka hn hself ?_
  obtain ⟨hp', g, d, tk, os⟩ := s
  have hC' := X _ _ hC
  refine ks_wpAny_isType_cls hC' rfl ⟨rfl, ?_⟩
  refine ks_wpAny_call_super hC' rfl hx rfl (fun c e => nomatch e) (looks_mroIn X T.selfC) (fun h1 e1 u1 => ?_)
  -- the super object's method: a method-wrapper
  have X1 : K.In h1 := X.keeps u1
  have hx1 := u1 _ _ hx
  obtain ⟨cd, hcl, hm, hh⟩ := T.clI
  have hup : alongIn K "__init__" ((cd.mro.dropWhile (· != .ref C)).drop 1) = some (some (.builtin "ValueError.__init__")) := by
    have z := T.up
    unfold ks_superIn at z
    rw [hcl] at z
    exact z
  have I1 : PySem.W.InstAt h1 x (excO C t0) C none := ⟨hx1, rfl, rfl, trivial⟩
  have hI : Looks (model prog w) h1 (isInstance (.ref x) (.type "ValueError")) true := I1.type.andThen (looks_subIn X1 T.veC)
  refine kxs_getMethod kxs_ValueError e1 (looks_opaque X1 T.any) (l₀ := cd.mro) (fun A Q E s k q => wpAny_bind ((looks_clsIn X1 hcl) A _ E s k (wpAny_pure q))) rfl X1 hup hI (ks_ne X1 I1 hcl) (by decide) ?_
  have up2 : ∀ b o, h1.get? b = some o → (h1.push (kxs_mw "ValueError.__init__" x)).get? b = some o := fun b o e => Heap.get?_push_of_some _ e
  refine kxs_callWith (i := "ValueError.__init__") (x := x) rfl (evalArgs_plain (spliced_cons (Constant_str (k := j) (pos := p3) (spliced_nil ?_))))
  refine ⟨Heap.get?_push_size _ rfl, ?_⟩
  refine mw_run (up2 _ _ (u1 _ _ hC')) (up2 _ _ hx1) (Heap.get?_push_size _ rfl) (by show 1 ≤ sizeLine; rw [sizeLine_eq]; decide) fun h3 t1 k3 hx3 => ?_
  exact hq h3 _ t1 (fun b o hb e => k3 b o hb (up2 _ _ (u1 _ _ e))) hx3
end

/-! ### the two __init__ -/
def top (i : Nat) : Stmt := PySem.Challenge.pw_countermarch_k51_whole_any_schedule_is_j.main.body.getD i (.Pass ⟨0, 0, 0, 0⟩)
abbrev sInitA : Stmt := inClass (top 2) 0
abbrev sInitS : Stmt := inClass (top 3) 0
/-- what __init__ leaves of a fresh exception at x -/
structure InitEnd (h h' : Heap) (x C dx t1 : Addr) (mA : Str → Option Value) : Prop where
  keep : ∀ b o, b ≠ x → h.get? b = some o → h'.get? b = some o
  obj : h'.get? x = some { cls := .ref C, dict := some dx, data := .fields #[.ref t1, .none, .none, .none, .bool false, .none] }
  dbig : h.objs.size ≤ dx
  dne : dx ≠ x
  ns : h'.Ns1 dx mA
section
variable {prog : Program} {w : World} {A : Around} {R : Result → Shared → Prop} {s : Shared} {K : Frag} {mg mb : Str → Option Value} {C fI cc cda : Addr}
theorem init_arg (T : ErrTxt prog K mg "ArgumentError" "ArgumentError.__init__" sInitA C fI cc cda) {x t0 : Addr} {v : Value} (X : K.In s.heap) (lim : s.heap.NoLimit) (G : s.heap.Ns mainGlobals mg) (B : s.heap.Ns builtinsNs mb)
    (hb : mb "super" = bootBuiltins "super") (hx : s.heap.get? x = some (excO C t0)) (hnx : K.lookup x = none) (hroom : A.depth < recursionLimit)
    (hq : ∀ h' tk dx t1, InitEnd s.heap h' x C dx t1 (fun y => if y = "reason" then some v else none) → R (.ok (.ret .none)) { s with heap := h', toks := tk }) :
    codeAny (model prog w) A (.call (.ref fI) ⟨[.ref x, v], []⟩) R s := by
  obtain ⟨oc, od, doc, pm, an, ct, osl, ho, hcd⟩ := T.fn
  obtain ⟨cd, hcl, hm, hh⟩ := T.clI
  refine ks_codeAny_call_defAt (fd := ksFn "__init__" "ArgumentError.__init__" (defArgs sInitA) (defBody sInitA) (defScope sInitA) .none .none doc pm an (.ref cda) ct cc) (body := defBody sInitA) (binds := [("self", .ref x), ("reason", v)]) hroom (X _ _ ho) rfl lim (codeRec_of X hcd) rfl (BindsTo.of_eq (by rfl)) (show ∀ y ∈ (defScope sInitA).names, y.2 ≠ .cell by decide +kernel) (locs rfl) (fun h1 hn k => ?_) rfl rfl rfl
  have xL : s.heap.objs.size ≠ x := Nat.ne_of_gt (Heap.lt_size hx)
  have nsK : ∀ {b : Addr} {m : Str → Option Value}, s.heap.Ns b m → h1.Ns b m := fun {b m} n => n.keeps k
  refine ks_wpAt_execs_cons (super_first (s := { s with heap := h1, toks := _ }) T (X.keeps k) (nsK G) (nsK B) hb hn rfl (k _ _ hx) rfl rfl rfl rfl rfl rfl rfl (fun h2 tk2 t1 k2 hx2 => ?_))
  refine wpAt_of_wpAny ?_
  have hn2 : h2.Ns s.heap.objs.size (fun y => ([("self", Value.ref x), ("reason", v)] : List (Str × Value)).reverse.lookup y) := by
    obtain ⟨o, es, ep, e, r⟩ := hn
    exact ⟨o, es, ep, k2 _ _ xL e, r⟩
  have X2 : K.In h2 := fun b o e => k2 b o (fun z => by rw [z, hnx] at e; cases e) (k b o (X b o e))
  refine wpAny_execs_cons (plainObj_wpAny_Assign_Attribute ?_)
  refine ESX.ldL (v := v) hn2 rfl (ESX.ldL (v := .ref x) hn2 rfl ?_)
  refine set_plain X2 (ox := excO C t1) (od := none) ⟨hx2, rfl, rfl, trivial⟩ T.sa ?_
  refine exc_osa X2 hx2 hcl hm hh T.noR (fun h3 tk3 dx k3 dn dne hx3 hn3 => ?_)
  refine wpAny_execs_nil (hq h3 tk3 dx t1 ⟨fun b o hb e => k3 b o hb (k2 b o hb (k b o e)), hx3, Nat.le_of_lt (Nat.lt_of_lt_of_le hn2.lt dn), dne, hn3⟩)
theorem init_sch (T : ErrTxt prog K mg "ScheduleError" "ScheduleError.__init__" sInitS C fI cc cda) {x t0 : Addr} {v u : Value} (X : K.In s.heap) (lim : s.heap.NoLimit) (G : s.heap.Ns mainGlobals mg) (B : s.heap.Ns builtinsNs mb)
    (hb : mb "super" = bootBuiltins "super") (hx : s.heap.get? x = some (excO C t0)) (hnx : K.lookup x = none) (hroom : A.depth < recursionLimit)
    (hq : ∀ h' tk dx t1, InitEnd s.heap h' x C dx t1 (fun y => if y = "reason" then some u else if y = "number" then some v else none) → R (.ok (.ret .none)) { s with heap := h', toks := tk }) :
    codeAny (model prog w) A (.call (.ref fI) ⟨[.ref x, v, u], []⟩) R s := by
  obtain ⟨oc, od, doc, pm, an, ct, osl, ho, hcd⟩ := T.fn
  obtain ⟨cd, hcl, hm, hh⟩ := T.clI
  refine ks_codeAny_call_defAt (fd := ksFn "__init__" "ScheduleError.__init__" (defArgs sInitS) (defBody sInitS) (defScope sInitS) .none .none doc pm an (.ref cda) ct cc) (body := defBody sInitS) (binds := [("self", .ref x), ("number", v), ("reason", u)]) hroom (X _ _ ho) rfl lim (codeRec_of X hcd) rfl (BindsTo.of_eq (by rfl)) (show ∀ y ∈ (defScope sInitS).names, y.2 ≠ .cell by decide +kernel) (locs rfl) (fun h1 hn k => ?_) rfl rfl rfl
  have xL : s.heap.objs.size ≠ x := Nat.ne_of_gt (Heap.lt_size hx)
  have nsK : ∀ {b : Addr} {m : Str → Option Value}, s.heap.Ns b m → h1.Ns b m := fun {b m} n => n.keeps k
  refine ks_wpAt_execs_cons (super_first (s := { s with heap := h1, toks := _ }) T (X.keeps k) (nsK G) (nsK B) hb hn rfl (k _ _ hx) rfl rfl rfl rfl rfl rfl rfl (fun h2 tk2 t1 k2 hx2 => ?_))
  refine wpAt_of_wpAny ?_
  have hn2 : h2.Ns s.heap.objs.size (fun y => ([("self", Value.ref x), ("number", v), ("reason", u)] : List (Str × Value)).reverse.lookup y) := by
    obtain ⟨o, es, ep, e, r⟩ := hn
    exact ⟨o, es, ep, k2 _ _ xL e, r⟩
  have X2 : K.In h2 := fun b o e => k2 b o (fun z => by rw [z, hnx] at e; cases e) (k b o (X b o e))
  refine wpAny_execs_cons (plainObj_wpAny_Assign_Attribute ?_)
  refine ESX.ldL (v := v) hn2 rfl (ESX.ldL (v := .ref x) hn2 rfl ?_)
  refine set_plain X2 (ox := excO C t1) (od := none) ⟨hx2, rfl, rfl, trivial⟩ T.sa ?_
  refine exc_osa X2 hx2 hcl hm hh T.noN (fun h3 tk3 dx k3 dn dne hx3 hn3 => ?_)
  have hn3' : h3.Ns s.heap.objs.size (fun y => ([("self", Value.ref x), ("number", v), ("reason", u)] : List (Str × Value)).reverse.lookup y) := by
    obtain ⟨o, es, ep, e, r⟩ := hn2
    exact ⟨o, es, ep, k3 _ _ xL e, r⟩
  have X3 : K.In h3 := fun b o e => k3 b o (fun z => by rw [z, hnx] at e; cases e) (X2 b o e)
  have big : s.heap.objs.size ≤ dx := Nat.le_of_lt (Nat.lt_of_lt_of_le hn2.lt dn)
  have hwi : Within (fun y => if y = ("number" : Str) then some v else none) ["number"] := Within.cons "number" v Within.nil
  obtain ⟨oD, _, _, hoD, _, _⟩ := hn3.count hwi
  refine wpAny_execs_cons (plainObj_wpAny_Assign_Attribute ?_)
  refine ESX.ldL (v := u) hn3' rfl (ESX.ldL (v := .ref x) hn3' rfl ?_)
  refine set_plain X3 (ox := { cls := .ref C, dict := some dx, data := .fields #[.ref t1, .none, .none, .none, .bool false, .none] }) (od := some oD) ⟨hx3, rfl, rfl, hoD⟩ T.sa ?_
  refine OEX.osa_old X3 hx3 hn3 hwi (by decide) hcl hm hh T.noR (fun h4 tk4 k4 hn4 => ?_)
  exact wpAny_execs_nil (hq h4 tk4 dx t1 ⟨fun b o hb e => k4 b o (fun z => absurd (Nat.lt_of_lt_of_le (by rw [← z]; exact Heap.lt_size e) big) (Nat.lt_irrefl _)) (k3 b o hb (k2 b o hb (k b o e))), k4 _ _ (Ne.symm dne) hx3, big, dne, hn4⟩)
/-- a made error -/
structure OwnMade (h h' : Heap) (e C d : Addr) (mA : Str → Option Value) : Prop where
  keep : ∀ b o, h.get? b = some o → h'.get? b = some o
  new : h.objs.size ≤ e
  obj : ∃ oe vs, h'.get? e = some oe ∧ oe.cls = .ref C ∧ oe.dict = some d ∧ oe.data = .fields vs ∧ vs[1]? = some .none
  dbig : h.objs.size ≤ d
  dne : d ≠ e
  ns : h'.Ns1 d mA
/-- C(..), from what its __init__ does -/
theorem own_made {name qual : Str} {st : Stmt} (T : ErrTxt prog K mg name qual st C fI cc cda) {vs : List Value} {mA : Str → Option Value} (X : K.In s.heap) (lim : s.heap.NoLimit) (hz : vs.length ≤ sizeLine) (hroom : A.depth + 1 < recursionLimit)
    (init : ∀ (A' : Around) (R' : Result → Shared → Prop) (s' : Shared) (x t0 : Addr), (∀ b o, s.heap.get? b = some o → s'.heap.get? b = some o) → K.In s'.heap → s'.heap.NoLimit → s'.heap.get? x = some (excO C t0) → K.lookup x = none → A'.depth < recursionLimit →
      (∀ h' tk dx t1, InitEnd s'.heap h' x C dx t1 mA → R' (.ok (.ret .none)) { s' with heap := h', toks := tk }) → codeAny (model prog w) A' (.call (.ref fI) ⟨.ref x :: vs, []⟩) R' s')
    (hq : ∀ h' tk e d, OwnMade s.heap h' e C d mA → R (.ok (.ret (.ref e))) { s with heap := h', toks := tk }) :
    codeAny (model prog w) A (.call (.ref C) ⟨vs, []⟩) R s := by
  obtain ⟨nm, q, N, bs, bm, sn, sub, ab, col, dd, k0, k1, k2, k3, k5, hC, hbm⟩ := T.cls
  obtain ⟨hp, g, dr, tk, os⟩ := s
  have k : ∀ b o, hp.get? b = some o → ((hp.push (kdv_tup vs)).push (excO C hp.objs.size)).get? b = some o := fun b o e => Heap.get?_push_of_some _ (Heap.get?_push_of_some _ e)
  have hget : ((hp.push (kdv_tup vs)).push (excO C hp.objs.size)).get? (hp.objs.size + 1) = some (excO C hp.objs.size) := by heap_get
  have hnx : K.lookup (hp.objs.size + 1) = none := by
    cases e : K.lookup (hp.objs.size + 1) with
    | none => rfl
    | some o => exact absurd (Nat.lt_of_succ_lt (Heap.lt_size (show hp.get? (hp.objs.size + 1) = some o from X _ _ e))) (Nat.lt_irrefl _)
  refine call_own F.excBase_ValueError (fun Y => refsVE_contains Y bm hbm) (X _ _ hC) (looks_findIn X T.iC) (fun self => bind_fn X self T.tC) hz ?_
  refine init _ _ ⟨(hp.push (kdv_tup vs)).push (excO C hp.objs.size), g, dr, tk, os⟩ (hp.objs.size + 1) hp.objs.size k (X.keeps k) (lim.keeps k) hget hnx (show A.depth + 1 < recursionLimit from hroom) fun h' tk' dx t1 ⟨k', hx, dn, dne, hns⟩ => ?_
  have old : ∀ b o, hp.get? b = some o → h'.get? b = some o := fun b o e => k' b o (Nat.ne_of_lt (Nat.lt_succ_of_lt (Heap.lt_size e))) (k b o e)
  have z : hp.objs.size + 1 + 1 ≤ dx := by
    have q := dn
    simpa only [Heap.size_push] using q
  exact ⟨rfl, hq h' tk' (hp.objs.size + 1) dx ⟨old, Nat.le_succ _, ⟨_, _, hx, rfl, rfl, rfl, rfl⟩, Nat.le_trans (Nat.le_trans (Nat.le_succ _) (Nat.le_succ _)) z, dne, hns⟩⟩
end
end KtX
end PySem

/-! # The same over the layer -/
namespace L2.Kt
open PySem PySem.Spec PyProof.Rows PySem.KtX
section
variable {X : Cx} {C fI cc cda : Addr} {name qual : Str} {st : Stmt}
/-- what an error class's __init__ must do, for the rule below -/
def Inits (X : Cx) (C fI : Addr) (mk : List V → List (Str × V) → Prop) : Prop := ∀ (vs : List V) (us : List Value) (fs : List (Str × V)), mk vs fs → Vals vs us → us.length ≤ sizeLine ∧ ∃ mA : Str → Option Value, (∀ f, RelO (fs.lookup f) (mA f)) ∧
  ∀ (A' : Around) (R' : Result → Shared → Prop) (s' : Shared) (x t0 : Addr) (mb : Str → Option Value), X.K.In s'.heap → s'.heap.NoLimit → s'.heap.Ns mainGlobals X.mg → s'.heap.Ns builtinsNs mb → mb "super" = bootBuiltins "super" →
    s'.heap.get? x = some (HandSPX.excO C t0) → X.K.lookup x = none → A'.depth < recursionLimit →
    (∀ h' tk dx t1, InitEnd s'.heap h' x C dx t1 mA → R' (.ok (.ret .none)) { s' with heap := h', toks := tk }) → codeAny (model X.prog X.w) A' (.call (.ref fI) ⟨.ref x :: us, []⟩) R' s'
def tMkE (C : Addr) (mk : List V → List (Str × V) → Prop) (ta : TA) : St → Hp → XK → Prop := fun σ H Q => ta σ H fun vs H1 => ∃ fs, mk vs fs ∧ ∀ d, H1 d = none → Q (.ref C) (some d) (upd H1 d (.xd fs))
theorem pmk_err {mk : List V → List (Str × V) → Prop} {e : Expr} {es : List Expr} {ta : TA} {p pos : Pos} {k : Nat} (T : ErrTxt X.prog X.K X.mg name qual st C fI cc cda) (hi : Inits X C fI mk) (hr : Room k X.A) (ha : PA X (e :: es) ta) (hg : Gl X name)
    (hdb : (name == ("__debug__" : Str)) = false) (he : starEach (e :: es) X.env = (false, eval e X.env) :: starEach es X.env) (hpl : (backTo pos (starEach es X.env)).any (·.1) = false) :
    PMk X (.Call (.Name name p) (e :: es) [] pos) (tMkE C mk ta) := by
  intro pins s σ H Q I h
  refine wpAny_Call_Name_kw (ld_glob I hg T.gC ?_ hdb)
  refine PySem.W.callWith_K (h₀ := X.base) I.ok.mod.kin T.kC (thn (ha.run pos pins s σ H _ I h) fun us s1 hh => ?_) he hpl
  obtain ⟨vs, H1, I1, r1, fs, hmk, q1⟩ := hh
  refine ⟨I1.kIn, ?_⟩
  obtain ⟨hz, mA, hrel, hrun⟩ := hi vs us fs hmk r1
  show wpAny _ _ (call (.ref C) us) _ _ _
  have hlim := I1.nolimit
  obtain ⟨mb, hb1, hb2⟩ := I1.mod.blt
  have hG : s1.heap.Ns mainGlobals X.mg := I1.mod.glob.keeps I1.bk
  have hB : s1.heap.Ns builtinsNs mb := hb1.keeps I1.bk
  refine wpAny_call (own_made T I1.kIn hlim hz (by have := hr.dp; omega) (fun A' R' s' x t0 k X' lim' hx hnx hd hq => hrun A' R' s' x t0 mb X' lim' (hG.keeps k) (hB.keeps k) (hb2 _ (by decide)) hx hnx hd hq) fun h' tk' e d M => ?_)
  obtain ⟨hp, g, dr, tk, os⟩ := s1
  show MkP X pins σ Q (.ref e) ⟨h', g, dr, tk', os⟩
  obtain ⟨oe, fv, hoe, hc, hd, hdat, h1⟩ := M.obj
  have hns := M.ns
  obtain ⟨G', g1, g2⟩ := restrict h' fun b => decide (b ≠ e)
  have gk : ∀ b, b ≠ e → G'.get? b = h'.get? b := fun b hb => g1 b (decide_eq_true hb)
  have ge : G'.get? e = none := g2 e (by simp)
  have old : ∀ b o, hp.get? b = some o → G'.get? b = some o := fun b o q => (gk b (Nat.ne_of_lt (Nat.lt_of_lt_of_le (Heap.lt_size q) M.new))).trans (M.keep b o q)
  have ob : ObjOk X.prog X.w (upd H1 d (.xd fs)) G' d (.xd fs) := ⟨_, hns.at (fun o q => (gk d M.dne).trans q), hrel⟩
  have J : Inv X pins σ (upd H1 d (.xd fs)) ⟨G', g, dr, tk', os⟩ := I1.laid (t' := tk') old M.dbig ob
  refine ⟨e, oe, fv, ⟨G', g, dr, tk', os⟩, _, .ref C, some d, rfl, J, fun b o q => ?_, ge, hoe, ⟨hc, hd⟩, hdat, h1, ?_, rfl, I1.bare, raises_own T.exC T.tyC, q1 d (I1.hok.fresh M.dbig)⟩
  · by_cases hbe : b = e
    · rw [hbe] at q
      exact absurd (ge.symm.trans q) (by simp)
    · exact (gk b hbe).symm.trans q
  · rw [upd_ne (Ne.symm M.dne)]
    exact I1.hok.fresh M.new
/-- one field -/
def mkA : List V → List (Str × V) → Prop := fun vs fs => ∃ v, vs = [v] ∧ fs = [(("reason" : Str), v)]
def mkS : List V → List (Str × V) → Prop := fun vs fs => ∃ v u, vs = [v, u] ∧ fs = [(("reason" : Str), u), (("number" : Str), v)]
theorem inits_arg (T : ErrTxt X.prog X.K X.mg "ArgumentError" "ArgumentError.__init__" sInitA C fI cc cda) : Inits X C fI mkA := by
  rintro vs us fs ⟨v, rfl, rfl⟩ r
  cases r with
  | @cons _ u _ us' r1 r2 =>
    cases r2
    exact ⟨by rw [sizeLine_eq]; exact (by decide : 1 ≤ 16777216), _, fun f => relO_put (fs := []) (mA := fun _ => none) r1 (fun g => True.intro) f, fun A' R' s' x t0 mb X' lim G B hb hx hnx hd hq => init_arg T X' lim G B hb hx hnx hd hq⟩
theorem inits_sch (T : ErrTxt X.prog X.K X.mg "ScheduleError" "ScheduleError.__init__" sInitS C fI cc cda) : Inits X C fI mkS := by
  rintro vs us fs ⟨v, u, rfl, rfl⟩ r
  cases r with
  | @cons _ v' _ us' r1 r2 =>
    cases r2 with
    | @cons _ u' _ us'' r3 r4 =>
      cases r4
      exact ⟨by rw [sizeLine_eq]; exact (by decide : 2 ≤ 16777216), _, fun f => relO_put r3 (fun g => relO_put (fs := []) (mA := fun _ => none) r1 (fun g => True.intro) g) f, fun A' R' s' x t0 mb X' lim G B hb hx hnx hd hq => init_sch T X' lim G B hb hx hnx hd hq⟩
/-- raise ArgumentError(e), raise ScheduleError(e, f) -/
theorem ps_raiseA {W : WX} {e : Expr} {ta : TA} {p pos pos2 : Pos} {k : Nat} (hc : X.calm = true) (T : ErrTxt X.prog X.K X.mg "ArgumentError" "ArgumentError.__init__" sInitA C fI cc cda) (hr : Room k X.A) (tk : Takes X W) (ha : PA X [e] ta) (hg : Gl X "ArgumentError" := by rfl)
    (he : starEach [e] X.env = (false, eval e X.env) :: starEach [] X.env := by rfl) (hpl : (backTo pos (starEach [] X.env)).any (·.1) = false := by rfl) :
    PS X (.Raise (some (.Call (.Name "ArgumentError" p) [e] [] pos)) none pos2) (fun _ σ H => tMkE C mkA ta σ H fun cls d H' => W cls d σ H') := ps_raise hc tk (pmk_err T (inits_arg T) hr ha hg (by decide) he hpl)
theorem ps_raiseS {W : WX} {e f : Expr} {ta : TA} {p pos pos2 : Pos} {k : Nat} (hc : X.calm = true) (T : ErrTxt X.prog X.K X.mg "ScheduleError" "ScheduleError.__init__" sInitS C fI cc cda) (hr : Room k X.A) (tk : Takes X W) (ha : PA X [e, f] ta) (hg : Gl X "ScheduleError" := by rfl)
    (he : starEach [e, f] X.env = (false, eval e X.env) :: starEach [f] X.env := by rfl) (hpl : (backTo pos (starEach [f] X.env)).any (·.1) = false := by rfl) :
    PS X (.Raise (some (.Call (.Name "ScheduleError" p) [e, f] [] pos)) none pos2) (fun _ σ H => tMkE C mkS ta σ H fun cls d H' => W cls d σ H') := ps_raise hc tk (pmk_err T (inits_sch T) hr ha hg (by decide) he hpl)
end

/-! ### isinstance(e, c), e the caught error that the suite holds, with its own dict -/
structure ErrIs (K : PySem.W.Frag) (C : Addr) : Prop where
  cl : (PySem.W.clsIn K C).isSome = true
  ga : PySem.W.findIn K (.ref C) "__getattribute__" = some (some (.builtin "BaseException.__getattribute__"))
  gg : PySem.W.findIn K (.ref C) "__getattr__" = some none
  exC : PySem.W.subIn K (.ref C) (.type "BaseException") = some true
  ha : PySem.W.findIn K (.ref C) "__class__" = some (some (.builtin "object.__class__"))
  hn : PySem.W.specialIn K (.builtin "object.__class__") "__get__" = some (some (.builtin "getset_descriptor.__get__"))
  ht : PySem.W.takesIn K (.builtin "object.__class__") = some true
  hm : PySem.W.mroIn K C (.type "object") = some true
  hdC : PySem.W.hasDictIn K C = true
theorem is_of {P : Program} {K : PySem.W.Frag} {mg : Str → Option Value} {name qual : Str} {st : Stmt} {C fI cc cda : Addr} (T : ErrTxt P K mg name qual st C fI cc cda) : ErrIs K C :=
  ⟨by obtain ⟨cd, h, _⟩ := T.clI; rw [h]; rfl, T.ga, T.gg, T.exC, T.clC, T.clG, T.clT, T.obC, T.hdC⟩
theorem xf_of {K : PySem.W.Frag} {C : Addr} (T : ErrIs K C) : XfC K C := ⟨T.ga, T.gg, T.exC, T.hdC⟩
def rIsX (K : PySem.W.Frag) (a : Addr) (cls : Value) (d : Option Addr) : List V → Hp → VK → Prop := fun xs H Q => ∃ (D dd : Addr) (fs : List (Str × V)) (c : V) (cv : Value) (b : Bool),
  xs = [.ref a, c] ∧ cls = .ref D ∧ d = some dd ∧ ErrIs K D ∧ H dd = some (.xd fs) ∧ (∀ u, RelV c u → u = cv) ∧ PySem.W.kitOne K (.ref D) cv = some b ∧ Q (.bl b) H
theorem call_isX {X : Cx} {a : Addr} {oe : Obj} {cls : Value} {d : Option Addr} {pn : List (Addr × Obj)} (hz : Zc cls d oe) (hf : ∃ vs, oe.data = .fields vs) : CallR (X.suite a ((a, oe) :: pn)) (.builtin "isinstance") (rIsX X.K a cls d) := by
  intro pins s σ H xs us Q I r h
  obtain ⟨D, dd, fs, c, cv, b, rfl, rfl, rfl, T, hdd, hcv, e, q⟩ := h
  obtain ⟨u1, u2, rfl, r1, r2⟩ := vals2 r
  cases (show u1 = Value.ref a from r1)
  obtain rfl := hcv _ r2
  obtain ⟨hget, _⟩ := I.pin (a, oe) (List.mem_append.mpr (.inl List.mem_cons_self))
  obtain ⟨vs, hv⟩ := hf
  obtain ⟨mA, hns, _⟩ := (show ObjOk X.prog X.w H s.heap dd (.xd fs) from I.hok dd _ hdd)
  obtain ⟨od, ho, _⟩ := lookIn_ns hns
  have J : PySem.W.InstAt s.heap a oe D (some od) := ⟨hget, hz.1, by unfold PySem.W.notCls; rw [hv] <;> rfl, by rw [hz.2]; exact ho⟩
  exact PySem.W.kia_one (PySem.W.kitx_exc T.cl T.ga T.gg T.exC T.ha T.hn T.ht T.hm) I.kIn J e (fun z => nomatch z) fun tk => ⟨.bl b, H, I.tok tk, rfl, q⟩
end L2.Kt

/-! # enumerate over a tuple; repr of a tuple of an int and a text; the law's own end, with no repr under way -/
namespace L2.Kt
open PySem PySem.Spec PyProof.Rows PySem.KtX
/-! ### enumerate(t) -/
theorem enum1_new {v : Value} {o : Obj} {H : Heap → Prop} (B : Begins v o H) :
    Meets (Builtin.«enumerate.__new__» ⟨[.type "enumerate", v], []⟩) (fun _ R s => H s.heap ∧
      R (.ok (.ret (.ref (s.heap.push o).objs.size))) { s with heap := (s.heap.push o).push { cls := .type "enumerate", data := .fields #[.none, .bool false, .ref s.heap.objs.size, rawInt 0, .none, .none] } }) :=
  .of_wp fun prog w A R s h => by
    obtain ⟨hp, g, d, tk, os⟩ := s
    obtain ⟨h1, h⟩ := h
    have hsub := sub_enumerate
    have itB : ∀ {A' : Around} {E : Value → Shared → Prop} {Q : Value → Shared → Prop}, Q (.ref hp.objs.size) ⟨hp.push o, g, d, tk, os⟩ → wpAny (model prog w) A' (pyIter v) Q E ⟨hp, g, d, tk, os⟩ :=
      fun q => B.iter prog w _ _ ⟨hp, g, d, tk, os⟩ _ h1 q
    wp_walk using itB
    refine wpAny_stack_any fun stk => wpAny_pure ?_
    split
    · rename_i c _ _ _ _ _
      cases (c == Value.type "enumerate") <;> (wp_walk using itB; exact ⟨_, rfl, h⟩)
    · wp_walk using itB
      exact ⟨_, rfl, h⟩
section
variable {prog : Program} {w : World} {A : Around} {E : Value → Shared → Prop} {s : Shared}
theorem enum1_call {v : Value} {o : Obj} {H : Heap → Prop} {Q : Value → Shared → Prop} (B : Begins v o H) (h1 : H s.heap)
    (h : ∀ h', IsEnum h' (s.heap.objs.size + 1) s.heap.objs.size 0 .none → h'.get? s.heap.objs.size = some o → (∀ b o, s.heap.get? b = some o → h'.get? b = some o) → Q (.ref (s.heap.objs.size + 1)) { s with heap := h' }) :
    wpAny (model prog w) A (call (.type "enumerate") [v]) Q E s := by
  refine callType_new F.called_enumerate (by decide) (F.typeCall_enumerate_1 _) (F.newCall_enumerate_1 _) (fun obj => F.args_object_init_2 obj _) F.entry_enumerate_new (enum1_new B) ⟨h1, ?_⟩
  have hz : (s.heap.push o).objs.size = s.heap.objs.size + 1 := Heap.size_push ..
  have he : IsEnum ((s.heap.push o).push { cls := .type "enumerate", data := .fields #[.none, .bool false, .ref s.heap.objs.size, rawInt 0, .none, .none] }) (s.heap.objs.size + 1) s.heap.objs.size 0 .none := by
    have q := Heap.get?_push_size (s.heap.push o) (o := { cls := .type "enumerate", data := .fields #[.none, .bool false, .ref s.heap.objs.size, rawInt 0, .none, .none] }) rfl
    rw [hz] at q
    exact q
  show _ ∧ _
  rw [hz]
  exact ⟨⟨_, he, rfl⟩, h _ he (Heap.get?_push_of_some _ (Heap.get?_push_size _ B.free)) fun b o x => Heap.get?_push_of_some _ (Heap.get?_push_of_some _ x)⟩
end
/-- the tuple at a (n items), each item in a new pair -/
def ItE (K : PySem.W.Frag) (a : Addr) (n : Nat) : It :=
  ⟨fun i H => i < n ∧ ∃ (xs : List V) (x : V), SqT K H a xs ∧ xs[i]? = some x,
   fun i H v H' => ∃ T x, v = .ref T ∧ H T = none ∧ H' = upd H T (.tup [.int (i : Nat), x]) ∧ ∀ xs, SqT K H a xs → xs[i]? = some x,
   fun i H => n ≤ i ∧ ∃ xs : List V, SqT K H a xs ∧ xs.length = n⟩
theorem tup_of_is {h : Heap} {a : Addr} {its : Array Value} (p : PyProof.Rows.IsTup h a its) : h.IsTuple a its := p
theorem turn_enumT {P : Program} {w : World} {K : PySem.W.Frag} {elts : List Expr} {kk : Nat} {tpos : Pos} (a e it : Addr) (n : Nat) (hai : a ≠ it) (hae : e ≠ a) :
    Turn P w K (.Tuple elts kk tpos) (ItE K a n) [e, it] e (fun i h => (∃ old, IsEnum h e it ((i : Nat) : Int) old) ∧ h.IsTupleIter it a i ∧ e ≠ it ∧ i ≤ n) where
  mem := by simp
  obj := fun i h st b hb => by
    obtain ⟨⟨old, he⟩, ⟨o, ho, hc, hd⟩, _, _⟩ := st
    rcases (by simpa using hb : b = e ∨ b = it) with z | z
    · rw [z]; exact ⟨_, he, fun v q => nomatch q⟩
    · rw [z]; exact ⟨o, ho, fun v q => by rw [hd] at q; cases q⟩
  keep := fun i h h' st k => let ⟨⟨old, he⟩, hi, hne⟩ := st; ⟨⟨old, k e (by simp) _ he⟩, hi.at fun o q => k it (by simp) o q, hne⟩
  item := by
    intro X hP hw hK hc i pins s σ H E I hf st hg
    subst hP hw hK
    obtain ⟨⟨old, he⟩, hit, hne, hin⟩ := st
    obtain ⟨hlt0, xs, x, hq, hx⟩ := hg
    obtain ⟨its, rv, p, hz⟩ := I.tuple hq
    obtain ⟨u, hu, ru⟩ := rv.get hx
    have hel : e < s.heap.objs.size := Heap.lt_size he
    have hil : it < s.heap.objs.size := by obtain ⟨_, q, _⟩ := hit; exact Heap.lt_size q
    have hlt : i < its.toArray.size := by
      have := (List.getElem?_eq_some_iff.mp hu).1
      simpa using this
    refine wpAny_pyNext_enum_itemC (Draws.tuple (prog := X.prog) (w := X.w) (A := X.A.in1) (I.ok.hd hc) it a hai its.toArray) he ⟨hit, p⟩ hlt hne (by simp [hne, hae]) fun y h' tk hy ho hit' hT hsz hk => ?_
    obtain rfl : y = u := by
      have z : its[i]? = some y := by simpa using hy
      rw [hu] at z
      exact (Option.some.inj z).symm
    refine ⟨_, rfl, wpAny_letOwnedTupleGo_enum (s := { s with heap := h', toks := tk + 1 }) ho fun h'' he' sb => ?_⟩
    have hT2 : h''.get? s.heap.objs.size = some { cls := .type "tuple", data := .seq #[.int i tk, y] } := (sb.2 _ (Nat.ne_of_gt hel)).trans hT
    have new : ObjOk X.prog X.w (upd H s.heap.objs.size (.tup [.int (i : Nat), x])) h'' s.heap.objs.size (.tup [.int (i : Nat), x]) :=
      ⟨by show 2 ≤ sizeLine; decide, [.int i tk, y], .cons ⟨_, rfl⟩ (.cons ru .nil), ⟨_, hT2, rfl, _, rfl⟩⟩
    have I1 : Inv X pins σ (upd H s.heap.objs.size (.tup [.int (i : Nat), x])) { s with heap := h'', toks := tk + 1 } :=
      I.turnedNew (ch := [e, it]) (fun b ob hb q => (sb.2 b (fun z => hb (by simp [z]))).trans (hk b ob (fun z => hb (by simp [z])) (fun z => hb (by simp [z])) q)) hf (Nat.le_refl _) new
    refine ⟨.ref s.heap.objs.size, _, I1, rfl, ⟨_, x, rfl, I.hok.fresh (Nat.le_refl _), rfl, fun ys hy => by rw [I.tuple_inj hy hq]; exact hx⟩, ⟨⟨y, ?_⟩, hit'.1.at fun o q => (sb.2 it (Ne.symm hne)).trans q, hne, hlt0⟩, fun b hb => ?_⟩
    · have e1 : ((i + 1 : Nat) : Int) = (i : Int) + 1 := by omega
      rw [e1]; exact he'
    · have hb' : b < s.heap.objs.size := by
        rcases (by simpa using hb : b = e ∨ b = it) with z | z
        · rw [z]; exact hel
        · rw [z]; exact hil
      exact (upd_ne (Nat.ne_of_lt hb')).trans (hf b hb).1
  done := by
    intro X hP hw hK hc i pins s σ H E I hf st hg
    subst hP hw hK
    obtain ⟨⟨old, he⟩, hit, hne, hin⟩ := st
    obtain ⟨hge, xs, hq, hx⟩ := hg
    obtain ⟨its, rv, p, hz⟩ := I.tuple hq
    obtain ⟨f0, f1, f2, f3, f4, f5⟩ := hf it (by simp)
    have hl := rv.length
    obtain rfl : i = its.toArray.size := by
      rw [List.size_toArray]
      omega
    exact wpAny_pyNext_enum_endD (Draws.tuple (prog := X.prog) (w := X.w) (A := X.A.in1) (I.ok.hd hc) it a hai its.toArray) he ⟨hit, p⟩ fun h' eb => ⟨rfl, I.turned (t' := s.toks) (fun b o hb q => eb b o hb q) f0 f1 f3 f4 f5⟩
  self := fun A i s Q E st h => let ⟨⟨_, he⟩, _⟩ := st; wpAny_pyIter_enum he h
def iEnT (K : PySem.W.Frag) (ta : TA) : TI := fun σ H R => ta σ H fun vs H1 => ∃ a xs, vs = [.ref a] ∧ SqT K H1 a xs ∧ R (ItE K a xs.length) H1
theorem pi_enT {X : Cx} {e : Expr} {ta : TA} {p pos tpos : Pos} {elts : List Expr} {kk : Nat} (hg : Gl X "enumerate") (hm : X.mg "enumerate" = none) (ha : PA X [e] ta) (hs : starEach [e] X.env = [(false, eval e X.env)] := by rfl) :
    PI X (.Tuple elts kk tpos) (.Call (.Name "enumerate" p) [e] [] pos) (iEnT X.K ta) := by
  refine ⟨fun pins s σ H R I h => ?_⟩
  refine Call_ (ld_blt I hg hm boot_enumerate (PyProof.Rows.callWith_type1 (thn (ha.run pos pins s σ H _ I h) fun us s1 ⟨vs, H1, I1, r1, q1⟩ => ?_) hs rfl))
  obtain ⟨a, xs, ex, hq, q⟩ := q1
  subst ex
  cases r1 with
  | cons r rr =>
    cases rr
    cases r
    obtain ⟨its, rv, p', hz⟩ := I1.tuple hq
    have hal : a < s1.heap.objs.size := p'.lt
    refine enum1_call (begins_tuple a its.toArray) p' fun h' he hit hk => wpAny_pyIter_enum he ?_
    have I2 : Inv X pins σ H1 { s1 with heap := h' } := I1.kept (t' := s1.toks) hk
    refine ⟨s1.heap.objs.size + 1, [s1.heap.objs.size + 1, s1.heap.objs.size], _, _, H1, rfl, I2, turn_enumT a (s1.heap.objs.size + 1) s1.heap.objs.size xs.length (Nat.ne_of_lt hal) (Nat.ne_of_gt (Nat.lt_succ_of_lt hal)), ⟨⟨.none, he⟩, ⟨_, hit, rfl, rfl⟩, Nat.succ_ne_self _, Nat.zero_le _⟩, fun b hb => ?_, q⟩
    have hle : s1.heap.objs.size ≤ b := by
      rcases (by simpa using hb : b = s1.heap.objs.size + 1 ∨ b = s1.heap.objs.size) with z | z
      · rw [z]; exact Nat.le_add_right _ _
      · rw [z]; exact Nat.le_refl _
    exact I1.fpOk hle (I1.hok.fresh hle)
theorem walk_enT {K : PySem.W.Frag} {a : Addr} {xs : List V} : Walk (ItE K a xs.length) xs.length (fun H => SqT K H a xs) (YPair (fun i => some (.int (i : Nat))) (fun i => xs[i]?)) := by
  refine ⟨fun i _ hi q => ⟨hi, xs, xs[i], q, by simp [hi]⟩, fun _ q => ⟨Nat.le_refl _, xs, q, rfl⟩, fun i H v H' _ q y => ?_⟩
  obtain ⟨T, x, h1, h2, h3, h4⟩ := y
  exact ⟨T, .int (i : Nat), x, h1, h2, h3, rfl, h4 xs q⟩

/-! ### repr((i, z)) -/
def reprPair (i : Int) (z : Str) : Str := tupleText [toString i, reprText z]
def rRepr (K : PySem.W.Frag) : List V → Hp → VK → Prop := fun xs H Q => ∃ (p : Addr) (i : Int) (z : Str), xs = [.ref p] ∧ SqT K H p [.int i, .str z] ∧ i.natAbs.log2 < 1920 ∧ (reprText z).length ≤ sizeLine ∧ (reprPair i z).length ≤ sizeLine ∧ Q (.str (reprPair i z)) H
theorem call_reprT {X : Cx} (hg : X.A.guards = some []) (hu : X.A.units + 1 < cLine) : CallR X (.builtin "repr") (rRepr X.K) := by
  intro pins s σ H xs us Q I r h
  obtain ⟨p, i, z, rfl, hq, hi, hz, hl, q⟩ := h
  obtain ⟨u, rfl, ru⟩ := vals1 r
  cases (show u = Value.ref p from ru)
  obtain ⟨its, rv, ⟨o, ho, hc, n, hd⟩, _⟩ := I.tuple hq
  cases rv with
  | cons r1 r2 =>
    cases r2 with
    | cons r3 r4 =>
      cases r4
      obtain ⟨t1, rfl⟩ := r1
      obtain ⟨t2, rfl⟩ := r3
      exact call_repr_slot hu ⟨o, ho, hc⟩ F.slot_tuple_repr (call_tuple_repr ⟨o, ho, hc⟩ hg (fun c m => absurd m (by simp)) ho hd (.cons (ReprIs.int t1 hi) (.cons (ReprIs.str z t2 hz) .nil))
        (fun u tk => ⟨_, _, rfl, .str (reprPair i z), H, I.tok tk, ⟨u, rfl⟩, q⟩) hl)

/-! ### the law's def: it is called where no repr is under way -/
/-- as FnOk, of the law's own call alone -/
structure FnC (P : Program) (w : World) (K : PySem.W.Frag) (mg : Str → Option Value) (base : Heap) (f : Addr) (fd : FuncData) (ps : List Str) (sp : Sp) : Prop where
  run : ∀ (s : Shared) (H : Hp) (us : List Value) (vs : List V) (Q : VK), Env0 P w K mg base callerA [] s H → BindsTo s fd ⟨us, []⟩ (ps.zip us) → Vals vs us → sp vs H Q E0 →
    codeAny (model P w) callerA (.call (.ref f) ⟨us, []⟩) (CR CX0 [] P w H s Q E0) s
section
variable {P : Program} {w : World} {K : PySem.W.Frag} {mg : Str → Option Value} {base : Heap}
theorem fnC_ok {x qual : Str} {st : Stmt} {f : Addr} {fd : FuncData} {N ps : List Str} {k : Nat} {sp : Sp} (F : Fun K x qual st f fd) (S : FnScope N ps (defScope st)) (hr : Room (k + 1) callerA) (len : ∀ vs H Q E, sp vs H Q E → vs.length = ps.length)
    (hbody : ∀ (cdv : Value) (s : Shared) (H : Hp) (vs : List V) (Q : VK), sp vs H Q E0 →
      ∃ t, PSs (cxOf CX0 P w K mg base N qual (defScope st) f cdv callerA [] s H E0).nox (defBody st) t ∧ t { nx := fun _ H' => Q .non H', rt := Q } (start N vs) H) : FnC P w K mg base f fd ps sp := by
  obtain ⟨oc, od, kV, doc, pm, an, cdv, ct, osl, rfl, lk, hcd⟩ := F.ex
  refine ⟨fun s H us vs Q e0 hb r hsp => ?_⟩
  have hl := len _ _ _ _ hsp
  have up : ∀ b o, base.get? b = some o → s.heap.get? b = some o := fun b o e => (e0.bs b o e).1
  have KX : K.In s.heap := e0.mod.kin.keeps up
  refine codeAny_call_function hr.depth (KX _ _ lk) rfl S.co S.gen rfl (PySem.W.codeRec_of KX hcd) (hb _ _ _ _ ?_)
  refine wpAny_newFunctionEnv_cells S.kind (fun ⟨y, v⟩ hy => (S.par y (List.of_mem_zip hy).1).imp_right fun q => ⟨q, PySem.W.cellsFrom_some _ _ _ (.inl q)⟩) fun env he s1 x => ?_
  subst he
  refine ⟨(e0.mod.nolimit.keeps up).keeps x.toInCall.keep, codeAny_func ?_⟩
  obtain ⟨t, ht, hq⟩ := hbody cdv s H vs Q hsp
  have I : Inv (cxOf CX0 P w K mg base N qual (defScope st) f cdv callerA [] s H E0) [] (start N vs) H s1 := inv_start S hr.hd e0 hl r x
  refine wpAny_mono (ht.nox.run [] s1 (start N vs) H _ I hq) (fun fl s' hs => ?_) fun e s' hs => hs
  cases fl with
  | ret u =>
    obtain ⟨v, σ', H', J, rv, q⟩ := hs
    exact ⟨v, H', J.os, J.bare, J.base, J.hok, rv, q⟩
  | next =>
    obtain ⟨σ', H', J, q⟩ := hs
    exact ⟨V.non, H', J.os, J.bare, J.base, J.hok, rfl, q⟩
  | brk =>
    obtain ⟨_, _, _, q⟩ := hs
    exact False.elim q
  | cont =>
    obtain ⟨_, _, _, q⟩ := hs
    exact False.elim q
/-- the script, tracked as known unless it is an object of the module -/
def hScript (K : PySem.W.Frag) (a : Addr) (o : Obj) (xs : List V) : Hp := fun b => if b = a ∧ K.lookup a = none then some (.frz o (.lst xs)) else none
theorem hScript_some {a b : Addr} {o : Obj} {xs : List V} {u : HO} (h : hScript K a o xs b = some u) : b = a ∧ K.lookup a = none ∧ u = .frz o (.lst xs) := by
  unfold hScript at h
  by_cases c : b = a ∧ K.lookup a = none
  · rw [if_pos c] at h
    exact ⟨c.1, c.2, (Option.some.inj h).symm⟩
  · rw [if_neg c] at h
    cases h
theorem hScript_none {a b : Addr} {o : Obj} {xs : List V} (h : ¬ (b = a ∧ K.lookup a = none)) : hScript K a o xs b = none := if_neg h
theorem law_end {mb : Str → Option Value} {fa a : Addr} {fd : FuncData} {x : Str} {sp : Sp} {s₁ : Shared} {vs : List Value} {ns : List Int}
    (KX : K.In s₁.heap) (hns : s₁.heap.Ns mainGlobals mg) (hb : s₁.heap.Ns builtinsNs mb) (hbb : ∀ x : Str, x ≠ "__name__" → mb x = bootBuiltins x) (hlim : s₁.heap.NoLimit) (hg : s₁.gens = #[])
    (ha : s₁.heap.get? a = some { cls := .type "list", data := .seq vs.toArray }) (hi : IntsAre vs ns) (hl : ns.length ≤ sizeLine)
    (F : ∀ base : Heap, K.In base → base.Ns mainGlobals mg → FnC P w K mg base fa fd [x] sp) (hbind : ∀ (s : Shared) (u : Value), BindsTo s fd ⟨[u], []⟩ [(x, u)])
    (hsp : ∀ H : Hp, SqL K H a (ns.map V.int) → sp [.ref a] H (fun v _ => v = .bl true) E0) :
    codeAny (model P w) callerA (.call (.ref fa) ⟨[.ref a], []⟩) (fun r s' => r = .ok (.ret (.bool true)) ∧ OldK s₁.heap s'.heap ∧ s'.os = s₁.os ∧ AllBare s'.gens) s₁ := by
  have rv := vals_ints hi
  have lenV := hi.length
  obtain ⟨H, hH⟩ : ∃ H, H = hScript K a { cls := .type "list", data := .seq vs.toArray } (ns.map V.int) := ⟨_, rfl⟩
  have hS : SqL K H a (ns.map V.int) := by
    cases hk : K.lookup a with
    | none => exact .inl (.inr ⟨{ cls := .type "list", data := .seq vs.toArray }, by rw [hH]; exact if_pos ⟨rfl, hk⟩⟩)
    | some o =>
      have e := KX a o hk
      rw [ha] at e
      cases e
      exact .inr ⟨_, vs.toArray, _, hk, rfl, rfl, rfl, by rw [List.size_toArray, lenV]; exact hl, by simpa using rv⟩
  have hok : HOk P w H s₁.heap := fun b u z => by
    rw [hH] at z
    obtain ⟨rfl, _, rfl⟩ := hScript_some z
    exact ⟨ha, by rw [List.length_map]; exact hl, vs, _, rv, ha⟩
  have nsK : ∀ {b : Addr} {m : Str → Option Value}, s₁.heap.Ns b m → (hidT s₁.heap H).Ns b m := fun {b m} ⟨o, es, ep, e, d, r⟩ => by
    refine ⟨o, es, ep, hidT_get e ?_, d, r⟩
    rw [hH]
    refine hScript_none fun z => ?_
    rw [z.1, ha] at e
    cases e
    cases d
  have hKb : K.In (hidT s₁.heap H) := fun b o e => hidT_get (KX b o e) (by
    rw [hH]
    refine hScript_none fun z => ?_
    rw [z.1, z.2] at e
    cases e)
  have hM : Mod K mg (hidT s₁.heap H) := ⟨hKb, nsK hns, ⟨mb, nsK hb, hbb⟩, let ⟨mc, h1, h2⟩ := hlim; ⟨mc, nsK h1, h2⟩⟩
  have e0 : Env0 P w K mg (hidT s₁.heap H) callerA [] s₁ H := ⟨rfl, hM, fun b o e => of_hidT e, Nat.le_of_eq (hidT_size _ _), trivial, fun b hb => absurd (show b ∈ ([] : List Addr) from hb) (by simp), hok, .of_eq hg⟩
  refine codeAny_mono ((F _ hKb (nsK hns)).run s₁ H [.ref a] [.ref a] _ e0 (hbind s₁ (.ref a)) (.cons rfl .nil) (hsp H hS)) fun r s' h => ?_
  cases r with
  | error e => exact False.elim h
  | ok fl =>
    cases fl with
    | next => exact False.elim h
    | brk => exact False.elim h
    | cont => exact False.elim h
    | ret u =>
      obtain ⟨v, H', os, bare, un, hok', r', q⟩ := h
      obtain rfl : v = .bl true := q
      obtain rfl : u = Value.bool true := r'
      refine ⟨rfl, OldK.of_keep fun b o e => ?_, os, bare⟩
      cases q : H b with
      | none => exact un.keep b o e q (fun z => absurd (show b ∈ ([] : List Addr) from z) (by simp)) (by simp)
      | some y =>
        have q0 := q
        rw [hH] at q0
        obtain ⟨rfl, _, rfl⟩ := hScript_some q0
        obtain ⟨e2, _⟩ := hok' b _ (un.frzs b _ _ q)
        rw [ha] at e
        cases e
        exact e2
end
theorem walk_law {l : PySem.W.OpenLaw} {n : Nat} {q : Program} {loose : List Str} {XP : (Str → Option Value) → Heap → Prop} {YP : World → Heap → Prop} {d : DefRec} {K : Params → PySem.W.Frag} {sp : World → Sp} {x : Str}
    (hn : l.most = some n) (hn2 : n ≤ sizeLine) (hdf : d.params.defaults = [])
    (hY : ∀ (w : World) (h : Heap), YP w h → (K w.params).In h)
    (F : ∀ (w : World) (mg : Str → Option Value) (fa : Addr) (h : Heap), (K w.params).In h → h.Ns mainGlobals mg → mg d.name = some (.ref fa) →
      ∃ fd : FuncData, (∀ (s : Shared) (u : Value), BindsTo s fd ⟨[u], []⟩ [(x, u)]) ∧ ∀ base : Heap, (K w.params).In base → base.Ns mainGlobals mg → FnC l.prog w (K w.params) mg base fa fd [x] (sp w))
    (hsp : ∀ (w : World) (H : Hp) (a : Addr) (ns : List Int), ns.length ≤ n → SqL (K w.params) H a (ns.map V.int) → sp w [.ref a] H (fun v _ => v = .bl true) E0) :
    PySem.W.WalkO q loose XP YP l.row.toRowW d [] (fun f vs => PySem.call f vs) := by
  refine Att.attach_call hn hdf fun w s₀ s₁ mg mb fa o pm cd doc a vs ns G Y ho hd hcd hmg hobj hints hlen hg => ?_
  obtain ⟨fd, hb, hF⟩ := F w mg fa _ (hY w _ Y) G.T.g hmg
  exact law_end (hY w _ Y) G.T.g G.T.b G.T.builtins G.T.nolimit hg hobj hints (Nat.le_trans hlen hn2) hF hb fun H hS => hsp w H a ns hlen hS
end L2.Kt

/-! # The data, the mirror, the promises -/
namespace L2.Kt
open PySem PySem.Spec PyProof.Rows PySem.KtX
/-! ### tests -/
theorem iteD {c A B : Prop} [Decidable c] (h1 : c → A) (h2 : ¬ c → B) : if decide c = true then A else B := by
  by_cases h : c
  · rw [if_pos (decide_eq_true h)]
    exact h1 h
  · rw [if_neg (by rw [decide_eq_false h]; exact Bool.false_ne_true)]
    exact h2 h
theorem iteND {c A B : Prop} [Decidable c] (h1 : ¬ c → A) (h2 : c → B) : if (!decide c) = true then A else B := by
  by_cases h : c
  · rw [if_neg (by rw [decide_eq_true h]; exact Bool.false_ne_true)]
    exact h2 h
  · rw [if_pos (by rw [decide_eq_false h]; rfl)]
    exact h1 h
theorem iteB {c : Bool} {A B : Prop} (h1 : c = true → A) (h2 : c = false → B) : if c = true then A else B := by
  cases c
  · exact iteF (h2 rfl)
  · exact iteT (h1 rfl)
/-! ### built-in names -/
theorem btIsi : bootBuiltins "isinstance" = some (.builtin "isinstance") := by decide +kernel
theorem btInt : bootBuiltins "int" = some (.type "int") := by decide +kernel
theorem btBool : bootBuiltins "bool" = some (.type "bool") := by decide +kernel
theorem btTuple : bootBuiltins "tuple" = some (.type "tuple") := by decide +kernel
theorem btStr : bootBuiltins "str" = some (.type "str") := by decide +kernel
theorem btLen : bootBuiltins "len" = some (.builtin "len") := by decide +kernel
theorem btList : bootBuiltins "list" = some (.type "list") := by decide +kernel
theorem btAbs : bootBuiltins "abs" = some (.builtin "abs") := by decide +kernel
theorem btMax : bootBuiltins "max" = some (.builtin "max") := by decide +kernel
theorem btRepr : bootBuiltins "repr" = some (.builtin "repr") := by decide +kernel
theorem btVE : bootBuiltins "ValueError" = some (.type "ValueError") := by decide +kernel
/-! ### the text by places -/
abbrev sIsInt : Stmt := top 7
abbrev sDemand : Stmt := top 9
abbrev sIsAct : Stmt := top 10
abbrev sJInit : Stmt := inClass (top 11) 0
abbrev sJReason : Stmt := inClass (top 11) 1
abbrev sJPerform : Stmt := inClass (top 11) 2
abbrev sJudge : Stmt := top 12
abbrev sStart : Stmt := top 14
abbrev sDraw : Stmt := top 15
abbrev sLInt : Stmt := top 16
abbrev sLAct : Stmt := top 17
abbrev sLReason : Stmt := top 18
abbrev sLJudge : Stmt := top 19
abbrev sNext : Stmt := top 20
abbrev sMade : Stmt := top 21
abbrev sSpoilt : Stmt := top 22
abbrev sArg : Stmt := top 23
abbrev sLaw : Stmt := top 24
/-! ### actions and rows -/
inductive Act | turn | adv (n : Int) | keep (n : Int) | rest (n : Int)
inductive Rw | flat (v : V) | tup (xs : List V) | lst (xs : List V)
def actT : List V → Option Act
  | [.str x] => if x = "turn" then some .turn else none
  | [.str x, .int n] => if x = "advance" then (if 1 ≤ n then some (.adv n) else none) else if x = "keep" then (if 0 ≤ n then some (.keep n) else none) else if x = "restore" then (if 0 ≤ n then some (.rest n) else none) else none
  | _ => none
def actR : Rw → Option Act
  | .tup xs => actT xs
  | _ => none
/-- a row stands at v -/
def RowAt (H : Hp) (v : V) : Rw → Prop
  | .flat x => v = x ∧ flatV x = true
  | .tup xs => ∃ p, v = .ref p ∧ H p = some (.tup xs) ∧ xs.all flatV = true
  | .lst xs => ∃ p, v = .ref p ∧ H p = some (.lst xs) ∧ xs.all flatV = true
def RowsAt (H : Hp) : List V → List Rw → Prop := Paired (RowAt H)
/-! ### what judges reckon -/
abbrev Full := List (Key × V)
def WFd (full : Full) : Prop := ∀ kv ∈ full, (∃ n, kv.1 = .inl n ∧ 0 ≤ n) ∧ ∃ z, 0 ≤ z ∧ kv.2 = V.int z
structure JS where
  place : Int
  front : Int
  cost : Int
  full : Full
def reasonA (slots place front : Int) (full : Full) : Act → Option Str
  | .turn => if place < 0 then some "nowhere" else if place = front - 1 then none else some "turn"
  | .adv n => if place < 0 then some "nowhere" else if front ≤ place + n then some "beyond" else none
  | .keep n => if slots ≤ n then some "slot" else if place < 0 then some "nowhere" else none
  | .rest n => if slots ≤ n then some "slot" else if (valV full (.inl n)).isSome = true then none else some "empty"
def reasonF (slots place front : Int) (full : Full) (r : Rw) : Option Str := match actR r with
  | none => some "form"
  | some a => if front = 0 then some "done" else reasonA slots place front full a
def intOf : Option V → Int
  | some (.int z) => z
  | _ => -1
def stepA (js : JS) : Act → JS
  | .turn => { js with front := js.front - 1, place := -1 }
  | .adv n => { js with place := js.place + n, cost := js.cost + n }
  | .keep n => { js with full := putK js.full (.inl n) (.int js.place) }
  | .rest n => { js with place := intOf (valV js.full (.inl n)) }
inductive Out | sch (k : Int) (z : Str) | val (c : Int)
def judgeL (slots : Int) : List Rw → Nat → JS → Out
  | [], k, js => if js.front = 0 then .val js.cost else .sch k "unfinished"
  | r :: rs, k, js => match reasonF slots js.place js.front js.full r, actR r with
    | some z, _ => .sch k z
    | none, some a => judgeL slots rs (k + 1) (stepA js a)
    | none, none => .sch k "form"
def judgeF (beats slots : Int) : Option (List Rw) → Out
  | none => .sch (-1) "form"
  | some rs => judgeL slots rs 0 ⟨0, beats, 0, []⟩
structure WFj (js : JS) (i : Nat) : Prop where
  f0 : 0 ≤ js.front
  f1 : js.front ≤ 40
  p0 : -1 ≤ js.place
  len : js.full.length ≤ i
  wf : WFd js.full
theorem wfd_nil : WFd [] := fun _ h => absurd h List.not_mem_nil
theorem wfd_put {full : Full} {n z : Int} (h : WFd full) (hn : 0 ≤ n) (hz : 0 ≤ z) : WFd (putK full (.inl n) (.int z)) := by
  intro kv hm
  unfold putK at hm
  split at hm
  · obtain ⟨kw, hk, e⟩ := List.mem_map.mp hm
    by_cases c : kw.1 = Sum.inl n
    · rw [if_pos c] at e
      subst e
      exact ⟨⟨n, c, hn⟩, z, hz, rfl⟩
    · rw [if_neg c] at e
      subst e
      exact h kw hk
  · rcases List.mem_append.mp hm with q | q
    · exact h kv q
    · rw [List.mem_singleton.mp q]
      exact ⟨⟨n, rfl, hn⟩, z, hz, rfl⟩
theorem wfd_val {full : Full} {k : Key} {v : V} (h : WFd full) (e : valV full k = some v) : ∃ z, 0 ≤ z ∧ v = .int z := by
  unfold valV at e
  cases q : full.find? fun kv => decide (kv.1 = k) with
  | none => rw [q] at e; cases e
  | some kv =>
    rw [q] at e
    obtain ⟨_, z, hz, e2⟩ := h kv (List.mem_of_find?_eq_some q)
    exact ⟨z, hz, (Option.some.inj e).symm.trans e2⟩
theorem reason_none {slots place front : Int} {full : Full} {r : Rw} (h : reasonF slots place front full r = none) : ∃ a, actR r = some a ∧ front ≠ 0 ∧ reasonA slots place front full a = none := by
  unfold reasonF at h
  cases e : actR r with
  | none => rw [e] at h; cases h
  | some a =>
    rw [e] at h
    by_cases c : front = 0
    · have h' : (if front = 0 then some ("done" : Str) else reasonA slots place front full a) = none := h
      rw [if_pos c] at h'
      cases h'
    · have h' : (if front = 0 then some ("done" : Str) else reasonA slots place front full a) = none := h
      rw [if_neg c] at h'
      exact ⟨a, rfl, c, h'⟩
theorem act_pos {r : Rw} : (∀ n, actR r = some (.adv n) → 1 ≤ n) ∧ (∀ n, actR r = some (.keep n) → 0 ≤ n) ∧ (∀ n, actR r = some (.rest n) → 0 ≤ n) := by
  cases r with
  | flat v => exact ⟨(fun _ h => nomatch h), (fun _ h => nomatch h), (fun _ h => nomatch h)⟩
  | lst xs => exact ⟨(fun _ h => nomatch h), (fun _ h => nomatch h), (fun _ h => nomatch h)⟩
  | tup xs =>
    refine ⟨fun n h => ?_, fun n h => ?_, fun n h => ?_⟩ <;>
    · have h' : actT xs = _ := h
      unfold actT at h'
      repeat' split at h'
      all_goals first
        | (cases h'; done)
        | (cases h'; assumption)
theorem wf_step {slots : Int} {js : JS} {i : Nat} {r : Rw} {a : Act} (w : WFj js i) (hn : reasonF slots js.place js.front js.full r = none) (ha : actR r = some a) : WFj (stepA js a) (i + 1) := by
  obtain ⟨a', e, hf, hr⟩ := reason_none hn
  rw [ha] at e
  cases e
  obtain ⟨p1, p2, p3⟩ := act_pos (r := r)
  obtain ⟨f0, f1, p0, len, wf⟩ := w
  cases a with
  | turn => exact ⟨by show 0 ≤ js.front - 1; omega, by show js.front - 1 ≤ 40; omega, Int.le_refl _, Nat.le_succ_of_le len, wf⟩
  | adv n => exact ⟨f0, f1, by have := p1 n ha; show -1 ≤ js.place + n; omega, Nat.le_succ_of_le len, wf⟩
  | keep n =>
    have hp : 0 ≤ js.place := by
      unfold reasonA at hr
      by_cases c : slots ≤ n
      · simp [c] at hr
      · by_cases c2 : js.place < 0
        · simp [c, c2] at hr
        · omega
    exact ⟨f0, f1, p0, Nat.le_trans (length_putK _ _ _) (Nat.succ_le_succ len), wfd_put wf (p2 n ha) hp⟩
  | rest n =>
    have hp : -1 ≤ intOf (valV js.full (.inl n)) := by
      cases q : valV js.full (.inl n) with
      | none => exact Int.le_refl _
      | some v =>
        obtain ⟨z, hz, rfl⟩ := wfd_val wf q
        show -1 ≤ z
        omega
    exact ⟨f0, f1, hp, Nat.le_succ_of_le len, wf⟩
/-- the first place of a list judged -/
theorem judge_stop {slots : Int} {rs : List Rw} {i : Nat} {r : Rw} {js : JS} {z : Str} (hr : rs[i]? = some r) (h : reasonF slots js.place js.front js.full r = some z) : judgeL slots (rs.drop i) i js = .sch i z := by
  have e : rs.drop i = r :: rs.drop (i + 1) := by
    obtain ⟨hi, e⟩ := List.getElem?_eq_some_iff.mp hr
    rw [List.drop_eq_getElem_cons hi, e]
  rw [e]
  unfold judgeL
  rw [h]
theorem judge_go {slots : Int} {rs : List Rw} {i : Nat} {r : Rw} {js : JS} {a : Act} (hr : rs[i]? = some r) (h : reasonF slots js.place js.front js.full r = none) (ha : actR r = some a) : judgeL slots (rs.drop i) i js = judgeL slots (rs.drop (i + 1)) (i + 1) (stepA js a) := by
  have e : rs.drop i = r :: rs.drop (i + 1) := by
    obtain ⟨hi, e⟩ := List.getElem?_eq_some_iff.mp hr
    rw [List.drop_eq_getElem_cons hi, e]
  rw [e]
  conv => lhs; unfold judgeL
  rw [h, ha]
theorem judge_end {slots : Int} {rs : List Rw} {js : JS} : judgeL slots (rs.drop rs.length) rs.length js = if js.front = 0 then .val js.cost else .sch rs.length "unfinished" := by
  rw [List.drop_length]
  rfl
/-! ### values that are asked for their type -/
def TyOk (H : Hp) (v : V) : Prop := flatV v = true ∨ (∃ p xs, v = .ref p ∧ H p = some (.tup xs)) ∨ ∃ p xs, v = .ref p ∧ H p = some (.lst xs)
def isIntV : V → Bool
  | .int _ => true
  | _ => false
def isBlV : V → Bool
  | .bl _ => true
  | _ => false
def isStrV : V → Bool
  | .str _ => true
  | _ => false
theorem ty_of {K : PySem.W.Frag} {H : Hp} {v : V} (h : TyOk H v) : ∃ n, TyX K H v (.type n) ∧ kitB n "int" = some (isIntV v || isBlV v) ∧ kitB n "bool" = some (isBlV v) ∧ kitB n "str" = some (isStrV v) ∧ (flatV v = true → kitB n "tuple" = some false) ∧ ((∃ p xs, v = .ref p ∧ H p = some (.tup xs)) → kitB n "tuple" = some true) ∧ ((∃ p xs, v = .ref p ∧ H p = some (.lst xs)) → kitB n "tuple" = some false) := by
  rcases h with h | ⟨p, xs, rfl, hp⟩ | ⟨p, xs, rfl, hp⟩
  · have no1 : ∀ {T : Prop}, (∃ p xs, v = .ref p ∧ H p = some (.tup xs)) → T := fun ⟨p, xs, e, _⟩ => by rw [e] at h; exact absurd (show false = true from h) Bool.false_ne_true
    have no2 : ∀ {T : Prop}, (∃ p xs, v = .ref p ∧ H p = some (.lst xs)) → T := fun ⟨p, xs, e, _⟩ => by rw [e] at h; exact absurd (show false = true from h) Bool.false_ne_true
    cases v with
    | non => exact ⟨"NoneType", .base .non, (show kitB "NoneType" "int" = some false by decide +kernel), (show kitB "NoneType" "bool" = some false by decide +kernel), (show kitB "NoneType" "str" = some false by decide +kernel), fun _ => (show kitB "NoneType" "tuple" = some false by decide +kernel), no1, no2⟩
    | bl b => exact ⟨"bool", .base (.bl b), (show kitB "bool" "int" = some true by decide +kernel), (show kitB "bool" "bool" = some true by decide +kernel), (show kitB "bool" "str" = some false by decide +kernel), fun _ => (show kitB "bool" "tuple" = some false by decide +kernel), no1, no2⟩
    | int i => exact ⟨"int", .base (.int i), (show kitB "int" "int" = some true by decide +kernel), (show kitB "int" "bool" = some false by decide +kernel), (show kitB "int" "str" = some false by decide +kernel), fun _ => (show kitB "int" "tuple" = some false by decide +kernel), no1, no2⟩
    | str z => exact ⟨"str", .base (.str z), (show kitB "str" "int" = some false by decide +kernel), (show kitB "str" "bool" = some false by decide +kernel), (show kitB "str" "str" = some true by decide +kernel), fun _ => (show kitB "str" "tuple" = some false by decide +kernel), no1, no2⟩
    | _ => exact absurd (show false = true from h) Bool.false_ne_true
  · exact ⟨"tuple", .base (.tup hp), (show kitB "tuple" "int" = some false by decide +kernel), (show kitB "tuple" "bool" = some false by decide +kernel), (show kitB "tuple" "str" = some false by decide +kernel), (fun z => absurd (show false = true from z) Bool.false_ne_true), (fun _ => (show kitB "tuple" "tuple" = some true by decide +kernel)), fun ⟨q, ys, e, hq⟩ => by cases e; rw [hp] at hq; cases hq⟩
  · exact ⟨"list", .base (.lst hp), (show kitB "list" "int" = some false by decide +kernel), (show kitB "list" "bool" = some false by decide +kernel), (show kitB "list" "str" = some false by decide +kernel), (fun z => absurd (show false = true from z) Bool.false_ne_true), (fun ⟨q, ys, e, hq⟩ => by cases e; rw [hp] at hq; cases hq), fun _ => (show kitB "list" "tuple" = some false by decide +kernel)⟩
theorem row_ty {H : Hp} {v : V} {r : Rw} (h : RowAt H v r) : TyOk H v := by
  cases r with
  | flat x => exact .inl (by rw [h.1]; exact h.2)
  | tup xs => obtain ⟨p, e, hp, _⟩ := h; exact .inr (.inl ⟨p, xs, e, hp⟩)
  | lst xs => obtain ⟨p, e, hp, _⟩ := h; exact .inr (.inr ⟨p, xs, e, hp⟩)
/-! ### the built-in names that the program leaves as they are -/
structure Blt (mg : Str → Option Value) : Prop where
  isi : mg "isinstance" = none
  int : mg "int" = none
  bool : mg "bool" = none
  tuple : mg "tuple" = none
  str : mg "str" = none
  len : mg "len" = none
  list : mg "list" = none
  abs : mg "abs" = none
  max : mg "max" = none
  repr : mg "repr" = none
  range : mg "range" = none
  enum : mg "enumerate" = none
  ve : mg "ValueError" = none
end L2.Kt

/-! # is_integer, _law_integer, _law_start, _law_draw -/
namespace L2.Kt
open PySem PySem.Spec PyProof.Rows PySem.KtX
section
variable {P : Program} {w : World} {K : PySem.W.Frag} {mg : Str → Option Value} {base : Heap}
/-! ### is_integer -/
def spIsInt : Sp := fun vs H Q _ => ∃ v, vs = [v] ∧ TyOk H v ∧ Q (.bl (isIntV v)) H
theorem scII : FnScope ["value"] ["value"] (defScope sIsInt) := ⟨rfl, rfl, rfl, by decide +kernel, rfl, by decide +kernel, by decide +kernel⟩
theorem ok_isInt {f : Addr} {fd : FuncData} (F : Fun K "is_integer" "is_integer" sIsInt f fd) (B : Blt mg) : FnOk P w K mg base CX0 1 f fd ["value"] spIsInt := by
  refine F.ok scII (fun vs H Q E h => ?_) (fun cdv A outer s H vs Q E hr h => ?_)
  · obtain ⟨v, rfl, _⟩ := h
    rfl
  · obtain ⟨v, rfl, ht, k⟩ := h
    obtain ⟨n, hty, e1, e2, _⟩ := ty_of (K := K) ht
    refine ⟨_, pss_one (ps_ret (pe_and (pe_callB call_isi (by rfl) B.isi btIsi (pa_cons (pv 0) (pa_cons (pe_bltn (v := .ty "int") (by rfl) B.int btInt rfl) pa_nil)))
      (pe_one (pe_not (pe_callB call_isi (by rfl) B.isi btIsi (pa_cons (pv 0) (pa_cons (pe_bltn (v := .ty "bool") (by rfl) B.bool btBool rfl) pa_nil))))))), ?_⟩
    refine ⟨_, rfl, _, _, _, _, _, rfl, .ty "int", hty, kit_ty e1, _, rfl, ?_⟩
    refine iteB (fun c => ?_) (fun c => ?_)
    · refine ⟨_, rfl, _, _, _, _, _, rfl, .ty "bool", hty, kit_ty e2, _, rfl, ?_⟩
      have e : (!isBlV v) = isIntV v := by
        cases v <;> first | rfl | exact absurd (show false = true from c) Bool.false_ne_true
      rw [e]
      exact k
    · have e : isIntV v = false := by
        cases v <;> first | rfl | exact absurd (show true = false from c) (by decide)
      rw [e] at k
      exact k
/-! ### _law_integer -/
def geV (v : V) (lo : Int) : Bool := match v with
  | .int n => decide (lo ≤ n)
  | _ => false
def spLInt : Sp := fun vs H Q _ => ∃ v lo, vs = [v, .int lo] ∧ TyOk H v ∧ Q (.bl (geV v lo)) H
theorem scLI : FnScope ["_law_value", "_law_low"] ["_law_value", "_law_low"] (defScope sLInt) := ⟨rfl, rfl, rfl, by decide +kernel, rfl, by decide +kernel, by decide +kernel⟩
theorem ok_lInt {f : Addr} {fd : FuncData} (F : Fun K "_law_integer" "_law_integer" sLInt f fd) (B : Blt mg) : FnOk P w K mg base CX0 1 f fd ["_law_value", "_law_low"] spLInt := by
  refine F.ok scLI (fun vs H Q E h => ?_) (fun cdv A outer s H vs Q E hr h => ?_)
  · obtain ⟨v, lo, rfl, _⟩ := h
    rfl
  · obtain ⟨v, lo, rfl, ht, k⟩ := h
    obtain ⟨n, hty, e1, e2, _⟩ := ty_of (K := K) ht
    refine ⟨_, pss_one (ps_ret (pe_and (pe_callB call_isi (by rfl) B.isi btIsi (pa_cons (pv 0) (pa_cons (pe_bltn (v := .ty "int") (by rfl) B.int btInt rfl) pa_nil)))
      (pe_and (pe_not (pe_callB call_isi (by rfl) B.isi btIsi (pa_cons (pv 0) (pa_cons (pe_bltn (v := .ty "bool") (by rfl) B.bool btBool rfl) pa_nil)))) (pe_one (pe_cmpR op_ge (pv 0) (pv 1) (nomark _)))))), ?_⟩
    refine ⟨_, rfl, _, _, _, _, _, rfl, .ty "int", hty, kit_ty e1, _, rfl, ?_⟩
    refine iteB (fun c => ?_) (fun c => ?_)
    · refine ⟨_, rfl, _, _, _, _, _, rfl, .ty "bool", hty, kit_ty e2, _, rfl, ?_⟩
      refine ⟨_, rfl, iteB (fun c2 => ?_) (fun c2 => ?_)⟩
      · cases v with
        | int n => exact ⟨_, rfl, _, rfl, _, _, rfl, rfl, k⟩
        | bl b => exact absurd (show false = true from c2) Bool.false_ne_true
        | _ => exact absurd (show false = true from c) Bool.false_ne_true
      · cases v with
        | bl b => exact k
        | int n => exact absurd (show true = false from c2) (by decide)
        | _ => exact absurd (show false = true from c) Bool.false_ne_true
    · cases v with
      | int n => exact absurd (show true = false from c) (by decide)
      | _ => exact k
/-! ### the state that draws -/
def StAt (H : Hp) (p q : Addr) : Prop := ∃ (ns : List Int) (a b c : Int), H p = some (.lst [.ref q, .int a, .int b, .int c]) ∧ H q = some (.lst (ns.map V.int)) ∧ 0 ≤ a ∧ 0 ≤ b ∧ b ≤ ns.length ∧ ns.length ≤ 63 ∧ 0 ≤ c ∧ c ≤ 2147483629
/-- all but what stands at p is as it was -/
def But (p : Addr) (H H' : Hp) : Prop := ∀ b o, b ≠ p → H b = some o → H' b = some o
theorem But.refl (p : Addr) (H : Hp) : But p H H := fun _ _ _ e => e
theorem But.trans {p : Addr} {H H1 H2 : Hp} (a : But p H H1) (b : But p H1 H2) : But p H H2 := fun c o h e => b c o h (a c o h e)
theorem But.same {p : Addr} {H H1 H2 : Hp} (a : But p H H1) (b : Same H1 H2) : But p H H2 := fun c o h e => b c o (a c o h e)
theorem But.of {p : Addr} {H H1 : Hp} (a : Same H H1) : But p H H1 := fun c o _ e => a c o e
theorem st_ne {H : Hp} {p q : Addr} {ns : List Int} {a b c : Int} {r : Addr} (h1 : H p = some (.lst [.ref r, .int a, .int b, .int c])) (h2 : H q = some (.lst (ns.map V.int))) : q ≠ p := ne_of h2 h1 (by
  intro z
  cases ns with
  | nil => cases z
  | cons n ns => cases z)
theorem ref_ints {q : Addr} {a b c : Int} {ns : List Int} : ¬ HO.lst (ns.map V.int) = HO.lst [.ref q, .int a, .int b, .int c] := by
  intro z
  cases ns with
  | nil => cases z
  | cons n ns => cases z
/-! ### _law_start -/
def spStart (K : PySem.W.Frag) : Sp := fun vs H Q _ => ∃ (a : Addr) (ns : List Int), vs = [.ref a] ∧ SqL K H a (ns.map V.int) ∧ ns.length ≤ 63 ∧ ∀ p q H', H p = none → H q = none → StAt H' p q → Same H H' → Q (.ref p) H'
theorem scSt : FnScope ["_law_script", "_law_seed", "_law_cell"] ["_law_script"] (defScope sStart) := ⟨rfl, rfl, rfl, by decide +kernel, rfl, by decide +kernel, by decide +kernel⟩
theorem ok_start {f : Addr} {fd : FuncData} (F : Fun K "_law_start" "_law_start" sStart f fd) (B : Blt mg) : FnOk P w K mg base CX0 1 f fd ["_law_script"] (spStart K) := by
  refine F.ok scSt (fun vs H Q E h => ?_) (fun cdv A outer s H vs Q E hr h => ?_)
  · obtain ⟨a, ns, rfl, _⟩ := h
    rfl
  · obtain ⟨a, ns, rfl, hS, hl, k⟩ := h
    refine ⟨_, pss_cons (ps_set (i := 1) scSt.nd rfl (Or.inl rfl) pe_int)
      (pss_cons (ps_for PassesOwn.never rfl (pi_list (pv 0)) (pg_name (i := 2) scSt.nd rfl (Or.inl rfl))
        (pss_one (ps_set (i := 1) scSt.nd rfl (Or.inl rfl) (pe_op op_add (pe_op op_mod (pe_callTy call_int1 (by rfl) B.int btInt (pa_cons (pe_op op_add (pe_op op_mul (pv 1) pe_int) (pv 2)) pa_nil)) pe_int) pe_int))))
      (pss_one (ps_ret (pe_lst (pa_cons (pe_callTy call_list_of (by rfl) B.list btList (pa_cons (pv 0) pa_nil)) (pa_cons pe_int (pa_cons pe_int (pa_cons (pv 1) pa_nil)))))))), ?_⟩
    refine ⟨_, rfl, a, rfl, ⟨_, hS⟩, for_list (K := K) (a := a) (xs := ns.map V.int) (fun i σ H' => ∃ (c : Int) (v : Option V), σ = [some (.ref a), some (.int c), v] ∧ H' = H ∧ 0 ≤ c ∧ c ≤ 2147483629)
      ⟨7, none, rfl, rfl, by decide, by decide⟩ (fun i σ H' _ ⟨_, _, _, e, _⟩ => by rw [e]; exact hS) ?_ ?_⟩
    · rintro i y σ H' hi ⟨c, v, rfl, rfl, h0, h1⟩
      obtain ⟨z, rfl⟩ : ∃ z, y = V.int z := by
        rw [List.getElem?_map] at hi
        cases e : ns[i]? with
        | none => rw [e] at hi; cases hi
        | some z => rw [e] at hi; exact ⟨z, (Option.some.inj hi).symm⟩
      refine ⟨_, rfl, _, _, rfl, rfl, .inr ⟨by decide, by decide⟩, _, rfl, _, _, rfl, rfl, .inl ⟨_, rfl, _, _, rfl, rfl, (by decide : (0 : Int) < 2147483629), _, _, rfl, rfl, ?_⟩⟩
      have m0 := Int.emod_nonneg (c * 48271 + z) (by decide : (2147483629 : Int) ≠ 0)
      have m1 := Int.emod_lt_of_pos (c * 48271 + z) (by decide : (0 : Int) < 2147483629)
      exact ⟨_, _, rfl, rfl, by omega, by omega⟩
    · rintro σ H' ⟨c, v, rfl, eH, h0, h1⟩
      rw [eH]
      refine ⟨_, rfl, a, _, rfl, .inl hS, fun q hq => ⟨_, rfl, (by show 4 ≤ sizeLine; decide), fun p hp => ?_⟩⟩
      have hpq : q ≠ p := ne_of_none upd_same hp
      have hp0 : H p = none := by rw [← hp, upd_ne (Ne.symm hpq)]
      refine k p q _ hp0 hq ⟨ns, 0, 0, c, upd_same, by rw [upd_ne hpq, upd_same], by decide, by decide, by omega, hl, h0, h1⟩ fun b o e => ?_
      rw [upd_ne (ne_of_none e hp0), upd_ne (ne_of_none e hq)]
      exact e
/-! ### _law_draw -/
def spDraw : Sp := fun vs H Q _ => ∃ (p q : Addr) (m : Int), vs = [.ref p, .int m] ∧ StAt H p q ∧ 0 < m ∧ m < 1000 ∧ ∀ (n : Int) H', 0 ≤ n → n < m → StAt H' p q → But p H H' → Q (.int n) H'
theorem scDr : FnScope ["_law_state", "_law_many", "_law_value"] ["_law_state", "_law_many"] (defScope sDraw) := ⟨rfl, rfl, rfl, by decide +kernel, rfl, by decide +kernel, by decide +kernel⟩
theorem ok_draw {f : Addr} {fd : FuncData} (F : Fun K "_law_draw" "_law_draw" sDraw f fd) (B : Blt mg) : FnOk P w K mg base CX0 1 f fd ["_law_state", "_law_many"] spDraw := by
  refine F.ok scDr (fun vs H Q E h => ?_) (fun cdv A outer s H vs Q E hr h => ?_)
  · obtain ⟨p, q, m, rfl, _⟩ := h
    rfl
  · obtain ⟨p, q, m, rfl, hS, hm0, hm1, k⟩ := h
    obtain ⟨ns, a, b, c, hp, hq, ha, hb, hbl, hl, hc, hc1⟩ := hS
    have hqp : q ≠ p := st_ne hp hq
    refine ⟨_, pss_cons (ps_if (PW.pt (pw_and (pt_cmpR op_eq (pe_ix ix_list (pv 0) pe_int (fun _ _ => rfl)) pe_int (nomark _)) (pw_and1 (pt_cmpR op_ge (pe_ix ix_list (pv 0) pe_int (fun _ _ => rfl)) (pe_callB call_len_seq (by rfl) B.len btLen (pa_cons (pe_ix ix_list (pv 0) pe_int (fun _ _ => rfl)) pa_nil)) (nomark _)))))
        (pss_cons (ps_asg (pe_op op_mod (pe_callTy call_int1 (by rfl) B.int btInt (pa_cons (pe_op op_add (pe_op op_mul (pe_ix ix_list (pv 0) pe_int (fun _ _ => rfl)) pe_int) pe_int) pa_nil)) pe_int) (pg_sub (pv 0) pe_int set_list))
          (pss_one (ps_ret (pe_op op_mod (pe_callTy call_int1 (by rfl) B.int btInt (pa_cons (pe_op op_fdiv (pe_ix ix_list (pv 0) pe_int (fun _ _ => rfl)) pe_int) pa_nil)) (pv 1)))))
        pss_nil)
      (pss_cons (ps_if (pt_cmpR op_eq (pe_ix ix_list (pv 0) pe_int (fun _ _ => rfl)) pe_int (nomark _))
        (pss_cons (ps_asg (pe_callB call_abs (by rfl) B.abs btAbs (pa_cons (pe_ix ix_list (pe_ix ix_list (pv 0) pe_int (fun _ _ => rfl)) (pe_ix ix_list (pv 0) pe_int (fun _ _ => rfl)) (fun _ _ => rfl)) pa_nil)) (pg_sub (pv 0) pe_int set_list))
          (pss_one (ps_asg (pe_op op_add (pe_ix ix_list (pv 0) pe_int (fun _ _ => rfl)) pe_int) (pg_sub (pv 0) pe_int set_list))))
        pss_nil)
      (pss_cons (ps_set (i := 2) scDr.nd rfl (Or.inl rfl) (pe_op op_mod (pe_callTy call_int1 (by rfl) B.int btInt (pa_cons (pe_ix ix_list (pv 0) pe_int (fun _ _ => rfl)) pa_nil)) (pv 1)))
      (pss_cons (ps_asg (pe_op op_fdiv (pe_ix ix_list (pv 0) pe_int (fun _ _ => rfl)) (pv 1)) (pg_sub (pv 0) pe_int set_list))
      (pss_one (ps_ret (pv 2)))))), ?_⟩
    -- the last three rows, from any state
    have tail : ∀ (a b : Int) (H1 : Hp), H1 p = some (.lst [.ref q, .int a, .int b, .int c]) → H1 q = some (.lst (ns.map V.int)) → 0 ≤ a → 0 ≤ b → b ≤ ns.length → But p H H1 →
        ∀ R : V → Hp → Prop, (∀ n H', 0 ≤ n → n < m → StAt H' p q → But p H H' → R (.int n) H') → R (.int (a % m)) (upd H1 p (.lst [.ref q, .int (a / m), .int b, .int c])) := by
      intro a b H1 h1 h2 ha hb hbl hB R hR
      refine hR _ _ (Int.emod_nonneg _ (by omega)) (Int.emod_lt_of_pos _ hm0) ⟨ns, a / m, b, c, upd_same, by rw [upd_ne hqp]; exact h2, Int.ediv_nonneg ha (by omega), hb, hbl, hl, hc, hc1⟩ fun d o hd e => ?_
      rw [upd_ne hd]
      exact hB d o hd e
    have end_ : ∀ (a b : Int) (H1 : Hp), H1 p = some (.lst [.ref q, .int a, .int b, .int c]) → H1 q = some (.lst (ns.map V.int)) → 0 ≤ a → 0 ≤ b → b ≤ ns.length → But p H H1 → Q (.int (a % m)) (upd H1 p (.lst [.ref q, .int (a / m), .int b, .int c])) :=
      fun a b H1 h1 h2 ha hb hbl hB => tail a b H1 h1 h2 ha hb hbl hB Q k
    refine ⟨_, rfl, p, _, _, _, rfl, rfl, SqL.of hp, rfl, rfl, _, rfl, iteD (fun e => ?_) (fun e => ?_)⟩
    · refine ⟨_, rfl, p, _, _, _, rfl, rfl, SqL.of hp, rfl, _, rfl, p, _, _, _, rfl, rfl, SqL.of hp, rfl, q, _, rfl, .inl (SqL.of hq), _, _, rfl, rfl, _, rfl, iteD (fun e2 => ?_) (fun e2 => ?_)⟩
      · -- a new seed
        have m0 := Int.emod_nonneg (c * 48271 + 69621) (by decide : (2147483629 : Int) ≠ 0)
        have m1 := Int.emod_lt_of_pos (c * 48271 + 69621) (by decide : (0 : Int) < 2147483629)
        refine ⟨_, rfl, p, _, _, _, rfl, rfl, SqL.of hp, rfl, _, _, rfl, rfl, .inr ⟨by decide, by decide⟩, _, _, rfl, rfl, .inl ⟨_, rfl, _, _, rfl, rfl, (by decide : (0 : Int) < 2147483629), _, rfl, p, _, _, 3, rfl, rfl, hp, rfl, ?_⟩⟩
        refine ⟨_, rfl, p, _, _, _, rfl, rfl, SqL.of upd_same, rfl, _, _, rfl, rfl, ⟨by decide, by decide⟩, .inl ⟨_, rfl, _, rfl, _, _, rfl, rfl, hm0, ?_⟩⟩
        refine k _ _ (Int.emod_nonneg _ (by omega)) (Int.emod_lt_of_pos _ hm0) ⟨ns, a, b, (c * 48271 + 69621) % 2147483629, upd_same, by rw [upd_ne hqp]; exact hq, ha, hb, hbl, hl, m0, by omega⟩ fun d o hd e => ?_
        rw [upd_ne hd]
        exact e
      · -- the next number of the script
        have hlt : b < ns.length := by
          have z : ¬ (((ns.map V.int).length : Int) ≤ b) := e2
          rw [List.length_map] at z
          omega
        obtain ⟨j, rfl⟩ : ∃ j : Nat, b = (j : Int) := ⟨b.toNat, by omega⟩
        obtain ⟨z, hz⟩ : ∃ z, ns[j]? = some z := ⟨ns[j]'(by omega), List.getElem?_eq_getElem (by omega)⟩
        refine ⟨_, rfl, p, _, _, _, rfl, rfl, SqL.of hp, rfl, rfl, _, rfl, iteD (fun _ => ?_) (fun n => absurd e n)⟩
        refine ⟨_, rfl, p, _, _, _, rfl, rfl, SqL.of hp, rfl, _, rfl, p, _, _, _, rfl, rfl, SqL.of hp, rfl, q, _, _, V.int z, rfl, rfl, SqL.of hq, atI_nat (by rw [List.getElem?_map, hz]; rfl), _, rfl, _, rfl, p, _, _, 1, rfl, rfl, hp, rfl, ?_⟩
        refine ⟨_, rfl, p, _, _, _, rfl, rfl, SqL.of upd_same, rfl, _, _, rfl, rfl, _, rfl, p, _, _, 2, rfl, rfl, upd_same, rfl, ?_⟩
        refine ⟨_, rfl, p, _, _, _, rfl, rfl, SqL.of upd_same, rfl, .inl ⟨_, rfl, _, rfl, _, _, rfl, rfl, hm0, _, rfl, p, _, _, _, rfl, rfl, SqL.of upd_same, rfl, _, rfl, _, _, rfl, rfl, ⟨hm0, by omega⟩, _, rfl, p, _, _, 1, rfl, rfl, upd_same, rfl, _, rfl, ?_⟩⟩
        refine end_ _ _ _ upd_same (by rw [upd_ne hqp, upd_ne hqp]; exact hq) ?_ (by omega) (by omega) fun d o hd e => ?_
        · split <;> omega
        · rw [upd_ne hd, upd_ne hd]
          exact e
    · refine ⟨_, rfl, p, _, _, _, rfl, rfl, SqL.of hp, rfl, rfl, _, rfl, iteD (fun y => absurd y e) (fun _ => ?_)⟩
      refine ⟨_, rfl, p, _, _, _, rfl, rfl, SqL.of hp, rfl, .inl ⟨_, rfl, _, rfl, _, _, rfl, rfl, hm0, _, rfl, p, _, _, _, rfl, rfl, SqL.of hp, rfl, _, rfl, _, _, rfl, rfl, ⟨hm0, by omega⟩, _, rfl, p, _, _, 1, rfl, rfl, hp, rfl, _, rfl, ?_⟩⟩
      exact end_ _ _ _ hp hq ha hb hbl (But.refl p H)
end
end L2.Kt

/-! # is_action, _law_action, demand_counts -/
namespace L2.Kt
open PySem PySem.Spec PyProof.Rows PySem.KtX
/-! ### the form of an action -/
abbrev zTurn : V := .str "turn"
theorem s_ta : ¬ (("turn" : Str) = "advance") := by decide +kernel
theorem s_tk : ¬ (("turn" : Str) = "keep") := by decide +kernel
theorem s_tr : ¬ (("turn" : Str) = "restore") := by decide +kernel
theorem s_ka : ¬ (("keep" : Str) = "advance") := by decide +kernel
theorem s_ra : ¬ (("restore" : Str) = "advance") := by decide +kernel
theorem s_rk : ¬ (("restore" : Str) = "keep") := by decide +kernel
theorem s_kr : ¬ (("keep" : Str) = "restore") := by decide +kernel
theorem s_ar : ¬ (("advance" : Str) = "restore") := by decide +kernel
theorem s_ak : ¬ (("advance" : Str) = "keep") := by decide +kernel
theorem s_at : ¬ (("advance" : Str) = "turn") := by decide +kernel
theorem s_kt : ¬ (("keep" : Str) = "turn") := by decide +kernel
theorem s_rt : ¬ (("restore" : Str) = "turn") := by decide +kernel
theorem v_str {x y : Str} (h : ¬ x = y) : ¬ V.str x = V.str y := fun e => h (V.str.inj e)
theorem scal_flat {x : V} {z : Str} (h : flatV x = true) : scal x (.str z) = true := by
  cases x <;> first | rfl | exact absurd (show false = true from h) Bool.false_ne_true
theorem act_turn1 : actT [zTurn] = some .turn := by
  show (if ("turn" : Str) = "turn" then some Act.turn else none) = some Act.turn
  rw [if_pos rfl]
theorem act_long {x y z : V} {r : List V} : actT (x :: y :: z :: r) = none := by
  cases x <;> first | rfl | (cases y <;> rfl)
theorem act_turn : ∀ {r : List V}, (actT (zTurn :: r)).isSome = decide (V.int (((zTurn :: r).length : Nat) : Int) = V.int 1)
  | [] => by rw [act_turn1]; rfl
  | [y] => by
    have e : actT [zTurn, y] = none := by
      cases y with
      | int n =>
        show (if ("turn" : Str) = "advance" then (if 1 ≤ n then some (Act.adv n) else none) else if ("turn" : Str) = "keep" then (if 0 ≤ n then some (Act.keep n) else none) else if ("turn" : Str) = "restore" then (if 0 ≤ n then some (Act.rest n) else none) else none) = none
        rw [if_neg s_ta, if_neg s_tk, if_neg s_tr]
      | _ => rfl
    rw [e]
    exact (decide_eq_false fun z => absurd (V.int.inj z) (by show ¬ ((2 : Int) = 1); decide)).symm
  | y :: z :: r => by
    rw [act_long]
    refine (decide_eq_false fun q => ?_).symm
    have := V.int.inj q
    simp only [List.length_cons] at this
    omega
theorem act_one {x : V} (h : ¬ x = zTurn) : actT [x] = none := by
  cases x with
  | str z => exact if_neg fun e => h (congrArg V.str e)
  | _ => rfl
theorem act_two {x y : V} (h : isIntV y = false) : actT [x, y] = none := by
  cases y with
  | int n => exact absurd (show true = false from h) (by decide)
  | _ => cases x <;> rfl
theorem act_str {z : Str} {n : Int} : actT [.str z, .int n] = if z = "advance" then (if 1 ≤ n then some (.adv n) else none) else if z = "keep" then (if 0 ≤ n then some (.keep n) else none) else if z = "restore" then (if 0 ≤ n then some (.rest n) else none) else none := rfl
theorem act_adv {n : Int} : (actT [.str "advance", .int n]).isSome = decide (1 ≤ n) := by
  rw [act_str, if_pos rfl]
  by_cases c : 1 ≤ n
  · rw [if_pos c, decide_eq_true c]; rfl
  · rw [if_neg c, decide_eq_false c]; rfl
abbrev twoV : List V := [.str "keep", .str "restore"]
theorem in_two {x : V} : inV x twoV = (decide (x = .str "keep") || decide (x = .str "restore")) := by
  cases x with
  | str z =>
    show ((("keep" : Str) == z) || ((("restore" : Str) == z) || false)) = _
    rw [dec_str, dec_str, Bool.or_false, BEq.comm (a := z), BEq.comm (a := z)]
  | _ => simp [inV, eqV]
theorem act_other {x : V} {n : Int} (h : ¬ x = .str "advance") : (actT [x, .int n]).isSome = (inV x twoV && decide (0 ≤ n)) := by
  rw [in_two]
  cases x with
  | str z =>
    rw [act_str, if_neg fun e => h (congrArg V.str e)]
    by_cases c1 : z = "keep"
    · subst c1
      rw [if_pos rfl]
      by_cases c : 0 ≤ n
      · rw [if_pos c, decide_eq_true c]; simp
      · rw [if_neg c, decide_eq_false c]; simp
    · rw [if_neg c1]
      by_cases c2 : z = "restore"
      · subst c2
        rw [if_pos rfl]
        by_cases c : 0 ≤ n
        · rw [if_pos c, decide_eq_true c]; simp
        · rw [if_neg c, decide_eq_false c]; simp
      · rw [if_neg c2]
        simp [c1, c2]
  | _ => simp [actT]
section
variable {P : Program} {w : World} {K : PySem.W.Frag} {mg : Str → Option Value} {base : Heap}
/-! ### is_action -/
def spAct : Sp := fun vs H Q _ => ∃ v r, vs = [v] ∧ RowAt H v r ∧ ∀ H', Same H H' → Q (.bl (actR r).isSome) H'
theorem scIA : FnScope ["action"] ["action"] (defScope sIsAct) := ⟨rfl, rfl, rfl, by decide +kernel, rfl, by decide +kernel, by decide +kernel⟩
theorem ok_isAct {f fI : Addr} {fd fdI : FuncData} (F : Fun K "is_action" "is_action" sIsAct f fd) (B : Blt mg) (FI : Fun K "is_integer" "is_integer" sIsInt fI fdI) (gI : mg "is_integer" = some (.ref fI)) (bI : Binds K fdI ["value"] []) :
    FnOk P w K mg base CX0 2 f fd ["action"] spAct := by
  have GI : FnOk P w K mg base CX0 1 fI fdI ["value"] spIsInt := ok_isInt FI B
  refine F.ok scIA (fun vs H Q E h => ?_) (fun cdv A outer s H vs Q E hr h => ?_)
  · obtain ⟨v, r, rfl, _⟩ := h
    rfl
  · obtain ⟨v, r, rfl, hR, k⟩ := h
    obtain ⟨n, hty, _, _, _, e1, e2, e3⟩ := ty_of (K := K) (row_ty hR)
    refine ⟨_, pss_cons (ps_if (PW.pt (pw_or (pt_not (pt_val (pe_callB call_isi (by rfl) B.isi btIsi (pa_cons (pv 0) (pa_cons (pe_bltn (v := .ty "tuple") (by rfl) B.tuple btTuple rfl) pa_nil))))) (pw_or1 (pt_not (pt_truth (pv 0) (by intro _; rfl)))))) (pss_one (ps_ret pe_bl)) pss_nil)
      (pss_cons (ps_if (pt_cmpR op_eq (pe_ix ix_tup (pv 0) pe_int (fun _ _ => rfl)) pe_str (nomark _)) (pss_one (ps_ret (pe_cmpR op_eq (pe_callB call_len_seq (by rfl) B.len btLen (pa_cons (pv 0) pa_nil)) pe_int (nomark _)))) pss_nil)
      (pss_cons (ps_if (PW.pt (pw_or (pt_cmpR op_ne (pe_callB call_len_seq (by rfl) B.len btLen (pa_cons (pv 0) pa_nil)) pe_int (nomark _)) (pw_or1 (pt_not (pt_val (pe_call GI hr (by rfl) gI FI.kp bI .nil pass0 (pa_cons (pe_ix ix_tup (pv 0) pe_int (fun _ _ => rfl)) pa_nil))))))) (pss_one (ps_ret pe_bl)) pss_nil)
      (pss_cons (ps_if (pt_cmpR op_eq (pe_ix ix_tup (pv 0) pe_int (fun _ _ => rfl)) pe_str (nomark _)) (pss_one (ps_ret (pe_cmpR op_ge (pe_ix ix_tup (pv 0) pe_int (fun _ _ => rfl)) pe_int (nomark _)))) pss_nil)
      (pss_one (ps_ret (pe_and (pe_cmpR op_in_seq (pe_ix ix_tup (pv 0) pe_int (fun _ _ => rfl)) (pe_tup (pa_cons pe_str (pa_cons pe_str pa_nil))) (by rfl)) (pe_one (pe_cmpR op_ge (pe_ix ix_tup (pv 0) pe_int (fun _ _ => rfl)) pe_int (nomark _))))))))), ?_⟩
    cases r with
    | flat x =>
      obtain ⟨rfl, hf⟩ := hR
      exact ⟨_, rfl, _, _, _, _, _, rfl, .ty "tuple", hty, kit_ty (e1 hf), _, rfl, iteT (iteT (k H (Same.refl H)))⟩
    | lst xs =>
      obtain ⟨p, rfl, hp, _⟩ := hR
      exact ⟨_, rfl, _, _, _, _, _, rfl, .ty "tuple", hty, kit_ty (e3 ⟨p, xs, rfl, hp⟩), _, rfl, iteT (iteT (k H (Same.refl H)))⟩
    | tup xs =>
      obtain ⟨p, rfl, hp, ha⟩ := hR
      have k' : ∀ H', Same H H' → Q (.bl (actT xs).isSome) H' := k
      refine ⟨_, rfl, _, _, _, _, _, rfl, .ty "tuple", hty, kit_ty (e2 ⟨p, xs, rfl, hp⟩), _, rfl, iteF ⟨_, rfl, _, .inr (.inl ⟨xs, SqT.of hp, rfl⟩), ?_⟩⟩
      cases xs with
      | nil => exact iteT (k' H (Same.refl H))
      | cons x r =>
        refine iteF ?_
        have hx : flatV x = true := (Bool.and_eq_true_iff.mp (List.all_cons ▸ ha)).1
        have hr' : r.all flatV = true := (Bool.and_eq_true_iff.mp (List.all_cons ▸ ha)).2
        have at0 : atI (x :: r) 0 = some x := atI_nat (j := 0) rfl
        refine ⟨_, rfl, p, _, _, _, rfl, rfl, SqT.of hp, at0, scal_flat hx, _, rfl, iteD (fun e => ?_) (fun e => ?_)⟩
        · subst e
          refine ⟨_, rfl, p, _, rfl, .inr (SqT.of hp), rfl, ?_⟩
          have k2 := k' H (Same.refl H)
          rw [act_turn] at k2
          exact k2
        · refine ⟨_, rfl, p, _, rfl, .inr (SqT.of hp), rfl, _, rfl, iteND (fun c => ?_) (fun c => ?_)⟩
          · -- not two parts
            refine iteT ?_
            have q : (actT (x :: r)).isSome = false := by
              cases r with
              | nil => rw [act_one e]; rfl
              | cons y r =>
                cases r with
                | nil => exact absurd rfl c
                | cons z r => rw [act_long]; rfl
            rw [q] at k'
            exact k' H (Same.refl H)
          · have hl : ((x :: r).length : Int) = 2 := V.int.inj c
            obtain ⟨y, rfl⟩ : ∃ y, r = [y] := by
              match r, hl with
              | [], h => exact absurd h (by simp)
              | [y], _ => exact ⟨y, rfl⟩
              | y :: z :: r, h => simp only [List.length_cons] at h; omega
            have hy : flatV y = true := (Bool.and_eq_true_iff.mp (List.all_cons ▸ hr')).1
            have at1 : atI [x, y] 1 = some y := atI_nat (j := 1) rfl
            refine ⟨_, rfl, p, _, _, _, rfl, rfl, SqT.of hp, at1, y, rfl, .inl hy, _, rfl, ?_⟩
            cases ey : isIntV y with
            | false =>
              refine iteT ?_
              have q : (actT [x, y]).isSome = false := by rw [act_two ey]; rfl
              rw [q] at k'
              exact k' H (Same.refl H)
            | true =>
              obtain ⟨n, rfl⟩ : ∃ n, y = .int n := by
                cases y with
                | int n => exact ⟨n, rfl⟩
                | _ => exact absurd (show false = true from ey) Bool.false_ne_true
              refine iteF ⟨_, rfl, p, _, _, _, rfl, rfl, SqT.of hp, at0, scal_flat hx, _, rfl, iteD (fun c2 => ?_) (fun c2 => ?_)⟩
              · subst c2
                refine ⟨_, rfl, p, _, _, _, rfl, rfl, SqT.of hp, at1, _, _, rfl, rfl, ?_⟩
                have k2 := k' H (Same.refl H)
                rw [act_adv] at k2
                exact k2
              · refine ⟨_, rfl, p, _, _, _, rfl, rfl, SqT.of hp, at0, (by show 2 ≤ sizeLine; decide), fun q hq => ⟨q, _, rfl, .inr (SqT.of upd_same), hx, rfl, _, rfl, ?_⟩⟩
                have hpq : p ≠ q := ne_of_none hp hq
                have sm : Same H (upd H q (.tup twoV)) := fun b o eb => by rw [upd_ne (ne_of_none eb hq)]; exact eb
                have k2 := k' _ sm
                rw [act_other c2] at k2
                cases ei : inV x twoV with
                | true =>
                  rw [ei] at k2
                  exact iteT ⟨_, rfl, p, _, _, _, rfl, rfl, SqT.of (sm _ _ hp), at1, _, _, rfl, rfl, k2⟩
                | false =>
                  rw [ei] at k2
                  exact iteF k2
end
end L2.Kt

/-! # _law_action, demand_counts -/
namespace L2.Kt
open PySem PySem.Spec PyProof.Rows PySem.KtX
theorem act_nstr {x : V} {r : List V} (h : isStrV x = false) : actT (x :: r) = none := by
  cases x with
  | str z => exact absurd (show true = false from h) (by decide)
  | _ => cases r <;> rfl
theorem geV_no {y : V} {lo : Int} (h : isIntV y = false) : geV y lo = false := by
  cases y with
  | int n => exact absurd (show true = false from h) (by decide)
  | _ => rfl
theorem int_or (y : V) : isIntV y = false ∨ ∃ n, y = .int n := by
  cases y with
  | int n => exact .inr ⟨n, rfl⟩
  | _ => exact .inl rfl
theorem act_advV {y : V} : (actT [.str "advance", y]).isSome = geV y 1 := by
  rcases int_or y with h | ⟨n, rfl⟩
  · rw [act_two h, geV_no h]; rfl
  · exact act_adv
theorem act_otherV {x y : V} (h : ¬ x = .str "advance") : (actT [x, y]).isSome = (inV x twoV && geV y 0) := by
  rcases int_or y with h2 | ⟨n, rfl⟩
  · rw [act_two h2, geV_no h2, Bool.and_false]; rfl
  · exact act_other h
section
variable {P : Program} {w : World} {K : PySem.W.Frag} {mg : Str → Option Value} {base : Heap}
theorem scLA : FnScope ["_law_action_here"] ["_law_action_here"] (defScope sLAct) := ⟨rfl, rfl, rfl, by decide +kernel, rfl, by decide +kernel, by decide +kernel⟩
theorem ok_lAct {f fI : Addr} {fd fdI : FuncData} (F : Fun K "_law_action" "_law_action" sLAct f fd) (B : Blt mg) (FI : Fun K "_law_integer" "_law_integer" sLInt fI fdI) (gI : mg "_law_integer" = some (.ref fI)) (bI : Binds K fdI ["_law_value", "_law_low"] []) :
    FnOk P w K mg base CX0 2 f fd ["_law_action_here"] spAct := by
  have GI : FnOk P w K mg base CX0 1 fI fdI ["_law_value", "_law_low"] spLInt := ok_lInt FI B
  refine F.ok scLA (fun vs H Q E h => ?_) (fun cdv A outer s H vs Q E hr h => ?_)
  · obtain ⟨v, r, rfl, _⟩ := h
    rfl
  · obtain ⟨v, r, rfl, hR, k⟩ := h
    obtain ⟨n, hty, _, _, _, e1, e2, e3⟩ := ty_of (K := K) (row_ty hR)
    refine ⟨_, pss_cons (ps_if (PW.pt (pw_or (pt_not (pt_val (pe_callB call_isi (by rfl) B.isi btIsi (pa_cons (pv 0) (pa_cons (pe_bltn (v := .ty "tuple") (by rfl) B.tuple btTuple rfl) pa_nil))))) (pw_or (pt_not (pt_truth (pv 0) (by intro _; rfl)))
          (pw_or1 (pt_not (pt_val (pe_callB call_isi (by rfl) B.isi btIsi (pa_cons (pe_ix ix_tup (pv 0) pe_int (fun _ _ => rfl)) (pa_cons (pe_bltn (v := .ty "str") (by rfl) B.str btStr rfl) pa_nil))))))))) (pss_one (ps_ret pe_bl)) pss_nil)
      (pss_cons (ps_if (pt_cmpR op_eq (pe_ix ix_tup (pv 0) pe_int (fun _ _ => rfl)) pe_str (nomark _)) (pss_one (ps_ret (pe_cmpR op_eq (pe_callB call_len_seq (by rfl) B.len btLen (pa_cons (pv 0) pa_nil)) pe_int (nomark _)))) pss_nil)
      (pss_cons (ps_if (pt_cmpR op_ne (pe_callB call_len_seq (by rfl) B.len btLen (pa_cons (pv 0) pa_nil)) pe_int (nomark _)) (pss_one (ps_ret pe_bl)) pss_nil)
      (pss_cons (ps_if (pt_cmpR op_eq (pe_ix ix_tup (pv 0) pe_int (fun _ _ => rfl)) pe_str (nomark _)) (pss_one (ps_ret (pe_call GI hr (by rfl) gI FI.kp bI .nil pass0 (pa_cons (pe_ix ix_tup (pv 0) pe_int (fun _ _ => rfl)) (pa_cons pe_int pa_nil))))) pss_nil)
      (pss_one (ps_ret (pe_and (pe_cmpR op_in_seq (pe_ix ix_tup (pv 0) pe_int (fun _ _ => rfl)) (pe_tup (pa_cons pe_str (pa_cons pe_str pa_nil))) (by rfl)) (pe_one (pe_call GI hr (by rfl) gI FI.kp bI .nil pass0 (pa_cons (pe_ix ix_tup (pv 0) pe_int (fun _ _ => rfl)) (pa_cons pe_int pa_nil)))))))))), ?_⟩
    cases r with
    | flat x =>
      obtain ⟨rfl, hf⟩ := hR
      exact ⟨_, rfl, _, _, _, _, _, rfl, .ty "tuple", hty, kit_ty (e1 hf), _, rfl, iteT (iteT (k H (Same.refl H)))⟩
    | lst xs =>
      obtain ⟨p, rfl, hp, _⟩ := hR
      exact ⟨_, rfl, _, _, _, _, _, rfl, .ty "tuple", hty, kit_ty (e3 ⟨p, xs, rfl, hp⟩), _, rfl, iteT (iteT (k H (Same.refl H)))⟩
    | tup xs =>
      obtain ⟨p, rfl, hp, ha⟩ := hR
      have k' : ∀ H', Same H H' → Q (.bl (actT xs).isSome) H' := k
      refine ⟨_, rfl, _, _, _, _, _, rfl, .ty "tuple", hty, kit_ty (e2 ⟨p, xs, rfl, hp⟩), _, rfl, iteF ⟨_, rfl, _, .inr (.inl ⟨xs, SqT.of hp, rfl⟩), ?_⟩⟩
      cases xs with
      | nil => exact iteT (iteT (k' H (Same.refl H)))
      | cons x r =>
        refine iteF ?_
        have hx : flatV x = true := (Bool.and_eq_true_iff.mp (List.all_cons ▸ ha)).1
        have hr' : r.all flatV = true := (Bool.and_eq_true_iff.mp (List.all_cons ▸ ha)).2
        have at0 : atI (x :: r) 0 = some x := atI_nat (j := 0) rfl
        obtain ⟨n2, hty2, _, _, es, _⟩ := ty_of (K := K) (H := H) (v := x) (.inl hx)
        refine ⟨_, rfl, p, _, _, _, rfl, rfl, SqT.of hp, at0, _, _, _, _, _, rfl, .ty "str", hty2, kit_ty es, _, rfl, ?_⟩
        cases ez : isStrV x with
        | false =>
          have k2 := k' H (Same.refl H)
          rw [act_nstr ez] at k2
          exact iteT k2
        | true =>
        refine iteF ?_
        refine ⟨_, rfl, p, _, _, _, rfl, rfl, SqT.of hp, at0, scal_flat hx, _, rfl, iteD (fun e => ?_) (fun e => ?_)⟩
        · subst e
          refine ⟨_, rfl, p, _, rfl, .inr (SqT.of hp), rfl, ?_⟩
          have k2 := k' H (Same.refl H)
          rw [act_turn] at k2
          exact k2
        · refine ⟨_, rfl, p, _, rfl, .inr (SqT.of hp), rfl, _, rfl, iteND (fun c => ?_) (fun c => ?_)⟩
          · have q : (actT (x :: r)).isSome = false := by
              cases r with
              | nil => rw [act_one e]; rfl
              | cons y r =>
                cases r with
                | nil => exact absurd rfl c
                | cons z r => rw [act_long]; rfl
            rw [q] at k'
            exact k' H (Same.refl H)
          · have hl : ((x :: r).length : Int) = 2 := V.int.inj c
            obtain ⟨y, rfl⟩ : ∃ y, r = [y] := by
              match r, hl with
              | [], h => exact absurd h (by simp)
              | [y], _ => exact ⟨y, rfl⟩
              | y :: z :: r, h => simp only [List.length_cons] at h; omega
            have hy : flatV y = true := (Bool.and_eq_true_iff.mp (List.all_cons ▸ hr')).1
            have at1 : atI [x, y] 1 = some y := atI_nat (j := 1) rfl
            refine ⟨_, rfl, p, _, _, _, rfl, rfl, SqT.of hp, at0, scal_flat hx, _, rfl, iteD (fun c2 => ?_) (fun c2 => ?_)⟩
            · subst c2
              refine ⟨_, rfl, p, _, _, _, rfl, rfl, SqT.of hp, at1, y, 1, rfl, .inl hy, ?_⟩
              have k2 := k' H (Same.refl H)
              rw [act_advV] at k2
              exact k2
            · refine ⟨_, rfl, p, _, _, _, rfl, rfl, SqT.of hp, at0, (by show 2 ≤ sizeLine; decide), fun q hq => ⟨q, _, rfl, .inr (SqT.of upd_same), hx, rfl, _, rfl, ?_⟩⟩
              have sm : Same H (upd H q (.tup twoV)) := fun b o eb => by rw [upd_ne (ne_of_none eb hq)]; exact eb
              have k2 := k' _ sm
              rw [act_otherV c2] at k2
              cases ei : inV x twoV with
              | true =>
                rw [ei] at k2
                exact iteT ⟨_, rfl, p, _, _, _, rfl, rfl, SqT.of (sm _ _ hp), at1, y, 0, rfl, .inl hy, k2⟩
              | false =>
                rw [ei] at k2
                exact iteF k2
/-! ### demand_counts -/
def okNum (hi : Int) (v : V) : Bool := match v with
  | .int n => decide (0 ≤ n) && decide (n ≤ hi)
  | _ => false
theorem okNum_int {hi : Int} {v : V} (h : okNum hi v = true) : ∃ n, v = .int n ∧ 0 ≤ n ∧ n ≤ hi := by
  cases v with
  | int n =>
    obtain ⟨h1, h2⟩ := Bool.and_eq_true_iff.mp h
    exact ⟨n, rfl, of_decide_eq_true h1, of_decide_eq_true h2⟩
  | _ => exact absurd (show false = true from h) Bool.false_ne_true
/-- an argument error with that reason, its dict new -/
def ArgE (CA : Addr) (z : Str) (H : Hp) (E : XK) : Prop := ∀ d, H d = none → E (.ref CA) (some d) (upd H d (.xd [("reason", .str z)]))
def spDemand (CA : Addr) : Sp := fun vs H Q E => ∃ bv lv, vs = [bv, lv] ∧ TyOk H bv ∧ TyOk H lv ∧ (okNum 40 bv = false → ArgE CA "beats" H E) ∧ (okNum 40 bv = true → okNum 8 lv = false → ArgE CA "slots" H E) ∧ (okNum 40 bv = true → okNum 8 lv = true → Q .non H)
theorem scDe : FnScope ["beats", "slots"] ["beats", "slots"] (defScope sDemand) := ⟨rfl, rfl, rfl, by decide +kernel, rfl, by decide +kernel, by decide +kernel⟩
theorem ok_demand {f fI CA fE cc cda : Addr} {fd fdI : FuncData} {tb tk : Tok} (F : Fun K "demand_counts" "demand_counts" sDemand f fd) (B : Blt mg) (FI : Fun K "is_integer" "is_integer" sIsInt fI fdI) (gI : mg "is_integer" = some (.ref fI)) (bI : Binds K fdI ["value"] [])
    (T : ErrTxt P K mg "ArgumentError" "ArgumentError.__init__" sInitA CA fE cc cda) (gB : mg "MAX_BEATS" = some (.int 40 tb)) (gK : mg "MAX_KEPT" = some (.int 8 tk)) : FnOk P w K mg base (L2.CX P w) 2 f fd ["beats", "slots"] (spDemand CA) := by
  have GI : FnOk P w K mg base CX0 1 fI fdI ["value"] spIsInt := ok_isInt FI B
  refine F.okX scDe (fun vs H Q E h => ?_) (fun cdv A outer s H vs Q E hr h => ?_)
  · obtain ⟨bv, lv, rfl, _⟩ := h
    rfl
  · obtain ⟨bv, lv, rfl, t1, t2, k1, k2, k3⟩ := h
    refine ⟨_, pss_cons (ps_if (PW.pt (pw_or (pt_not (pt_val (pe_call GI hr (by rfl) gI FI.kp bI .nil pass0 (pa_cons (pv 0) pa_nil)))) (pw_or1 (pt_not (pt_chain op_le op_le pe_int (pv 0) (pe_glob (v := .int 40) (by rfl) gB ⟨_, rfl⟩))))))
        (pss_one (ps_raiseA rfl T hr (takes_of (E := E) rfl rfl rfl rfl) (pa_cons pe_str pa_nil))) pss_nil)
      (pss_one (ps_if (PW.pt (pw_or (pt_not (pt_val (pe_call GI hr (by rfl) gI FI.kp bI .nil pass0 (pa_cons (pv 1) pa_nil)))) (pw_or1 (pt_not (pt_chain op_le op_le pe_int (pv 1) (pe_glob (v := .int 8) (by rfl) gK ⟨_, rfl⟩))))))
        (pss_one (ps_raiseA rfl T hr (takes_of (E := E) rfl rfl rfl rfl) (pa_cons pe_str pa_nil))) pss_nil)), ?_⟩
    have raiseB : okNum 40 bv = false → ∃ fs, mkA [V.str "beats"] fs ∧ ∀ d, H d = none → E (.ref CA) (some d) (upd H d (.xd fs)) := fun c => ⟨_, ⟨_, rfl, rfl⟩, k1 c⟩
    have raiseS : okNum 40 bv = true → okNum 8 lv = false → ∃ fs, mkA [V.str "slots"] fs ∧ ∀ d, H d = none → E (.ref CA) (some d) (upd H d (.xd fs)) := fun c c2 => ⟨_, ⟨_, rfl, rfl⟩, k2 c c2⟩
    refine ⟨_, rfl, bv, rfl, t1, _, rfl, ?_⟩
    rcases int_or bv with eb | ⟨n, rfl⟩
    · rw [eb]
      refine iteT (iteT ?_)
      refine raiseB ?_
      cases bv with
      | int n => exact absurd (show true = false from eb) (by decide)
      | _ => rfl
    refine iteF ⟨_, rfl, _, _, rfl, rfl, _, rfl, iteD (fun c => ?_) (fun c => ?_)⟩
    · refine ⟨_, _, rfl, rfl, _, rfl, ?_⟩
      by_cases c2 : n ≤ 40
      · rw [decide_eq_true c2]
        refine iteF ?_
        have hB : okNum 40 (.int n) = true := Bool.and_eq_true_iff.mpr ⟨decide_eq_true c, decide_eq_true c2⟩
        refine ⟨_, rfl, lv, rfl, t2, _, rfl, ?_⟩
        rcases int_or lv with eb | ⟨m, rfl⟩
        · rw [eb]
          refine iteT (iteT ?_)
          refine raiseS hB ?_
          cases lv with
          | int n => exact absurd (show true = false from eb) (by decide)
          | _ => rfl
        refine iteF ⟨_, rfl, _, _, rfl, rfl, _, rfl, iteD (fun c3 => ?_) (fun c3 => ?_)⟩
        · refine ⟨_, _, rfl, rfl, _, rfl, ?_⟩
          by_cases c4 : m ≤ 8
          · rw [decide_eq_true c4]
            exact iteF (k3 hB (Bool.and_eq_true_iff.mpr ⟨decide_eq_true c3, decide_eq_true c4⟩))
          · rw [decide_eq_false c4]
            refine iteT (raiseS hB ?_)
            show (decide (0 ≤ m) && decide (m ≤ 8)) = false
            rw [decide_eq_false c4, Bool.and_false]
        · refine ⟨_, rfl, iteT (raiseS hB ?_)⟩
          show (decide (0 ≤ m) && decide (m ≤ 8)) = false
          rw [decide_eq_false c3, Bool.false_and]
      · rw [decide_eq_false c2]
        refine iteT (raiseB ?_)
        show (decide (0 ≤ n) && decide (n ≤ 40)) = false
        rw [decide_eq_false c2, Bool.and_false]
    · refine ⟨_, rfl, iteT (raiseB ?_)⟩
      show (decide (0 ≤ n) && decide (n ≤ 40)) = false
      rw [decide_eq_false c, Bool.false_and]
end
end L2.Kt

/-! # Judging, _law_reason -/
namespace L2.Kt
open PySem PySem.Spec PyProof.Rows PySem.KtX
/-! ### the object -/
def posV (p : Int) : V := if p < 0 then .non else .int p
theorem posV_neg {p : Int} (h : p < 0) : posV p = .non := if_pos h
theorem posV_int {p : Int} (h : ¬ p < 0) : posV p = .int p := if_neg h
def jf (front slots : Int) (pos : V) (d : Addr) (cost : Int) : List (Str × V) := [("front", .int front), ("slots", .int slots), ("position", pos), ("full", .ref d), ("cost", .int cost)]
theorem n_fs : ¬ (("front" : Str) = "slots") := by decide +kernel
theorem n_fp : ¬ (("front" : Str) = "position") := by decide +kernel
theorem n_fu : ¬ (("front" : Str) = "full") := by decide +kernel
theorem n_fc : ¬ (("front" : Str) = "cost") := by decide +kernel
theorem n_sp : ¬ (("slots" : Str) = "position") := by decide +kernel
theorem n_su : ¬ (("slots" : Str) = "full") := by decide +kernel
theorem n_sc : ¬ (("slots" : Str) = "cost") := by decide +kernel
theorem n_pu : ¬ (("position" : Str) = "full") := by decide +kernel
theorem n_pc : ¬ (("position" : Str) = "cost") := by decide +kernel
theorem n_uc : ¬ (("full" : Str) = "cost") := by decide +kernel
theorem putF_ne {f g : Str} {v x : V} {r : List (Str × V)} (h : ¬ g = f) : putF f v ((g, x) :: r) = (g, x) :: putF f v r := if_neg h
theorem putF_eq {f : Str} {v x : V} {r : List (Str × V)} : putF f v ((f, x) :: r) = (f, v) :: r := if_pos rfl
section
variable {f s c : Int} {p : V} {d : Addr}
theorem jf_front : (jf f s p d c).lookup ("front" : Str) = some (.int f) := by unfold jf; rw [lookup_put, if_pos rfl]
theorem jf_slots : (jf f s p d c).lookup ("slots" : Str) = some (.int s) := by unfold jf; rw [lookup_put, if_neg (Ne.symm n_fs), lookup_put, if_pos rfl]
theorem jf_pos : (jf f s p d c).lookup ("position" : Str) = some p := by unfold jf; rw [lookup_put, if_neg (Ne.symm n_fp), lookup_put, if_neg (Ne.symm n_sp), lookup_put, if_pos rfl]
theorem jf_full : (jf f s p d c).lookup ("full" : Str) = some (.ref d) := by unfold jf; rw [lookup_put, if_neg (Ne.symm n_fu), lookup_put, if_neg (Ne.symm n_su), lookup_put, if_neg (Ne.symm n_pu), lookup_put, if_pos rfl]
theorem jf_cost : (jf f s p d c).lookup ("cost" : Str) = some (.int c) := by unfold jf; rw [lookup_put, if_neg (Ne.symm n_fc), lookup_put, if_neg (Ne.symm n_sc), lookup_put, if_neg (Ne.symm n_pc), lookup_put, if_neg (Ne.symm n_uc), lookup_put, if_pos rfl]
theorem jf_no {m : Str} (h1 : ¬ m = "front") (h2 : ¬ m = "slots") (h3 : ¬ m = "position") (h4 : ¬ m = "full") (h5 : ¬ m = "cost") : (jf f s p d c).lookup m = none := by
  unfold jf
  rw [lookup_put, if_neg h1, lookup_put, if_neg h2, lookup_put, if_neg h3, lookup_put, if_neg h4, lookup_put, if_neg h5]
  rfl
theorem jf_putP {q : V} : putF "position" q (jf f s p d c) = jf f s q d c := by unfold jf; rw [putF_ne n_fp, putF_ne n_sp, putF_eq]
theorem jf_putF {g : Int} : putF "front" (.int g) (jf f s p d c) = jf g s p d c := by unfold jf; rw [putF_eq]
theorem jf_putC {g : Int} : putF "cost" (.int g) (jf f s p d c) = jf f s p d g := by unfold jf; rw [putF_ne n_fc, putF_ne n_sc, putF_ne n_pc, putF_ne n_uc, putF_eq]
theorem jf_new : putF "cost" (.int c) (putF "full" (.ref d) (putF "position" p (putF "slots" (.int s) (putF "front" (.int f) [])))) = jf f s p d c := by
  show putF "cost" (.int c) (putF "full" (.ref d) (putF "position" p (putF "slots" (.int s) [("front", V.int f)]))) = _
  rw [putF_ne n_fs]
  show putF "cost" (.int c) (putF "full" (.ref d) (putF "position" p [("front", V.int f), ("slots", V.int s)])) = _
  rw [putF_ne n_fp, putF_ne n_sp]
  show putF "cost" (.int c) (putF "full" (.ref d) [("front", V.int f), ("slots", V.int s), ("position", p)]) = _
  rw [putF_ne n_fu, putF_ne n_su, putF_ne n_pu]
  show putF "cost" (.int c) [("front", V.int f), ("slots", V.int s), ("position", p), ("full", V.ref d)] = _
  rw [putF_ne n_fc, putF_ne n_sc, putF_ne n_pc, putF_ne n_uc]
  rfl
end
structure JTxt (K : PySem.W.Frag) (C : Addr) : Prop where
  cl : Cls K C
  nF : NoAttr K C "front"
  nS : NoAttr K C "slots"
  nP : NoAttr K C "position"
  nU : NoAttr K C "full"
  nC : NoAttr K C "cost"
structure JAt (C : Addr) (H : Hp) (p d : Addr) (slots : Int) (js : JS) : Prop where
  ob : ∃ dx, H p = some (.ins C dx (jf js.front slots (posV js.place) d js.cost))
  dc : H d = some (.dK js.full)
theorem JAt.ne {C : Addr} {H : Hp} {p d : Addr} {slots : Int} {js : JS} (J : JAt C H p d slots js) : p ≠ d := by
  obtain ⟨⟨dx, h1⟩, h2⟩ := J
  exact ne_of h1 h2 (by intro z; cases z)
theorem JAt.same {C : Addr} {H H' : Hp} {p d : Addr} {slots : Int} {js : JS} (J : JAt C H p d slots js) (s : Same H H') : JAt C H' p d slots js := by
  obtain ⟨⟨dx, h1⟩, h2⟩ := J
  exact ⟨⟨dx, s _ _ h1⟩, s _ _ h2⟩
def optV : Option Str → V
  | none => .non
  | some z => .str z
/-- the four shapes -/
theorem act_shape {H : Hp} {v : V} {r : Rw} {a : Act} (hR : RowAt H v r) (ha : actR r = some a) : ∃ p xs, v = .ref p ∧ H p = some (.tup xs) ∧
    ((a = .turn ∧ xs = [zTurn]) ∨ (∃ n, a = .adv n ∧ 1 ≤ n ∧ xs = [.str "advance", .int n]) ∨ (∃ n, a = .keep n ∧ 0 ≤ n ∧ xs = [.str "keep", .int n]) ∨ ∃ n, a = .rest n ∧ 0 ≤ n ∧ xs = [.str "restore", .int n]) := by
  cases r with
  | flat x => cases ha
  | lst xs => cases ha
  | tup xs =>
    obtain ⟨p, rfl, hp, _⟩ := hR
    refine ⟨p, xs, rfl, hp, ?_⟩
    have ha' : actT xs = some a := ha
    match xs, ha' with
    | [], h => cases h
    | [x], h =>
      by_cases c : x = zTurn
      · subst c
        rw [act_turn1] at h
        cases h
        exact .inl ⟨rfl, rfl⟩
      · rw [act_one c] at h
        cases h
    | [x, y], h =>
      rcases int_or y with e | ⟨n, rfl⟩
      · rw [act_two e] at h
        cases h
      · cases x with
        | str z =>
          rw [act_str] at h
          by_cases c1 : z = "advance"
          · rw [if_pos c1] at h
            by_cases c : 1 ≤ n
            · rw [if_pos c] at h
              cases h
              exact .inr (.inl ⟨n, rfl, c, by rw [c1]⟩)
            · rw [if_neg c] at h; cases h
          · rw [if_neg c1] at h
            by_cases c2 : z = "keep"
            · rw [if_pos c2] at h
              by_cases c : 0 ≤ n
              · rw [if_pos c] at h
                cases h
                exact .inr (.inr (.inl ⟨n, rfl, c, by rw [c2]⟩))
              · rw [if_neg c] at h; cases h
            · rw [if_neg c2] at h
              by_cases c3 : z = "restore"
              · rw [if_pos c3] at h
                by_cases c : 0 ≤ n
                · rw [if_pos c] at h
                  cases h
                  exact .inr (.inr (.inr ⟨n, rfl, c, by rw [c3]⟩))
                · rw [if_neg c] at h; cases h
              · rw [if_neg c3] at h; cases h
        | _ => cases h
    | x :: y :: z :: r, h => rw [act_long] at h; cases h
theorem in_t : inV zTurn twoV = false := by rw [in_two, decide_eq_false (v_str s_tk), decide_eq_false (v_str s_tr)]; rfl
theorem in_a : inV (.str "advance") twoV = false := by rw [in_two, decide_eq_false (v_str s_ak), decide_eq_false (v_str s_ar)]; rfl
theorem in_k : inV (.str "keep") twoV = true := by rw [in_two, decide_eq_true rfl]; rfl
theorem in_r : inV (.str "restore") twoV = true := by rw [in_two, decide_eq_true rfl, Bool.or_true]
theorem upd_sm {H : Hp} {q : Addr} {o : HO} (hq : H q = none) : Same H (upd H q o) := fun b u eb => by rw [upd_ne (ne_of_none eb hq)]; exact eb
section
variable {P : Program} {w : World} {K : PySem.W.Frag} {mg : Str → Option Value} {base : Heap}
/-! ### __init__ -/
def spJInit (C : Addr) : Sp := fun vs H Q _ => ∃ (p dx : Addr) (beats slots : Int), vs = [.ref p, .int beats, .int slots] ∧ H p = some (.ins C dx []) ∧
  ∀ (d : Addr) (H' : Hp), H d = none → JAt C H' p d slots ⟨0, beats, 0, []⟩ → (∀ b o, H b = some o → b ≠ p → H' b = some o) → Q .non H'
theorem scJI : FnScope ["self", "beats", "slots"] ["self", "beats", "slots"] (defScope sJInit) := ⟨rfl, rfl, rfl, by decide +kernel, rfl, by decide +kernel, by decide +kernel⟩
theorem ok_jinit {f C : Addr} {fd : FuncData} (F : Fun K "__init__" "Judging.__init__" sJInit f fd) (T : JTxt K C) : FnOk P w K mg base CX0 1 f fd ["self", "beats", "slots"] (spJInit C) := by
  refine F.ok scJI (fun vs H Q E h => ?_) (fun cdv A outer s H vs Q E hr h => ?_)
  · obtain ⟨p, dx, beats, slots, rfl, _⟩ := h
    rfl
  · obtain ⟨p, dx, beats, slots, rfl, hp, k⟩ := h
    refine ⟨_, pss_cons (ps_fld (pv 0) (pv 1) rfl) (pss_cons (ps_fld (pv 0) (pv 2) rfl) (pss_cons (ps_fld (pv 0) pe_int rfl) (pss_cons (ps_fld (pv 0) pe_dnewK rfl) (pss_one (ps_fld (pv 0) pe_int rfl))))), ?_⟩
    refine ⟨_, rfl, _, rfl, p, C, dx, _, rfl, hp, T.cl, T.nF, (by show 0 < 1000; decide), ?_⟩
    refine ⟨_, rfl, _, rfl, p, C, dx, _, rfl, upd_same, T.cl, T.nS, (by show 1 < 1000; decide), ?_⟩
    refine ⟨_, rfl, p, C, dx, _, rfl, upd_same, T.cl, T.nP, (Nat.lt_of_le_of_lt (Nat.le_trans (length_putF _ _ _) (Nat.succ_le_succ (length_putF _ _ _))) (by decide)), ?_⟩
    intro d hd
    have npd : p ≠ d := ne_of_none upd_same hd
    have hd0 : H d = none := by
      have z := hd
      rw [upd_ne (Ne.symm npd), upd_ne (Ne.symm npd), upd_ne (Ne.symm npd)] at z
      exact z
    have len3 : (putF "position" (V.int 0) (putF "slots" (V.int slots) (putF "front" (V.int beats) []))).length ≤ 3 := Nat.le_trans (length_putF _ _ _) (Nat.succ_le_succ (Nat.le_trans (length_putF _ _ _) (Nat.succ_le_succ (length_putF _ _ _))))
    refine ⟨_, rfl, p, C, dx, _, rfl, (by rw [upd_ne npd]; exact upd_same), T.cl, T.nU, (by omega), ?_⟩
    have len4 := length_putF "full" (.ref d) (putF "position" (V.int 0) (putF "slots" (V.int slots) (putF "front" (V.int beats) [])))
    refine ⟨_, rfl, p, C, dx, _, rfl, upd_same, T.cl, T.nC, (by omega), ?_⟩
    refine k d _ hd0 ⟨⟨dx, Eq.trans upd_same (congrArg (fun l => some (HO.ins C dx l)) jf_new)⟩, ?_⟩ fun b o e hb => ?_
    · rw [upd_ne (Ne.symm npd), upd_ne (Ne.symm npd), upd_same]
    · rw [upd_ne hb, upd_ne hb, upd_ne (ne_of_none e hd0), upd_ne hb, upd_ne hb, upd_ne hb]
      exact e
/-! ### reason -/
def spJReason (C : Addr) : Sp := fun vs H Q _ => ∃ (p d : Addr) (slots : Int) (js : JS) (v : V) (r : Rw), vs = [.ref p, v] ∧ JAt C H p d slots js ∧ RowAt H v r ∧ ∀ H', Same H H' → Q (optV (reasonF slots js.place js.front js.full r)) H'
theorem scJR : FnScope ["self", "action", "op"] ["self", "action"] (defScope sJReason) := ⟨rfl, rfl, rfl, by decide +kernel, rfl, by decide +kernel, by decide +kernel⟩
theorem ok_jreason {f C fA fI : Addr} {fd fdA fdI : FuncData} (F : Fun K "reason" "Judging.reason" sJReason f fd) (T : JTxt K C) (B : Blt mg) (FA : Fun K "is_action" "is_action" sIsAct fA fdA) (gA : mg "is_action" = some (.ref fA)) (bA : Binds K fdA ["action"] [])
    (FI : Fun K "is_integer" "is_integer" sIsInt fI fdI) (gI : mg "is_integer" = some (.ref fI)) (bI : Binds K fdI ["value"] []) : FnOk P w K mg base CX0 3 f fd ["self", "action"] (spJReason C) := by
  have GA : FnOk P w K mg base CX0 2 fA fdA ["action"] spAct := ok_isAct FA B FI gI bI
  refine F.ok scJR (fun vs H Q E h => ?_) (fun cdv A outer s H vs Q E hr h => ?_)
  · obtain ⟨p, d, slots, js, v, r, rfl, _⟩ := h
    rfl
  · obtain ⟨p, d, slots, js, v, r, rfl, J, hR, k⟩ := h
    have hu := hu_of hr
    refine ⟨_, pss_cons (ps_if (pt_not (pt_val (pe_call GA hr (by rfl) gA FA.kp bA .nil pass0 (pa_cons (pv 1) pa_nil)))) (pss_one (ps_ret pe_str)) pss_nil)
      (pss_cons (ps_if (pt_cmpR op_eq (pe_fld (pv 0) rfl) pe_int (nomark _)) (pss_one (ps_ret pe_str)) pss_nil)
      (pss_cons (ps_set (i := 2) scJR.nd rfl (Or.inl rfl) (pe_ix ix_tup (pv 1) pe_int (fun _ _ => rfl)))
      (pss_cons (ps_if (PW.pt (pw_and (pt_cmpR op_in_seq (pv 2) (pe_tup (pa_cons pe_str (pa_cons pe_str pa_nil))) (by rfl)) (pw_and1 (pt_cmpR op_ge (pe_ix ix_tup (pv 1) pe_int (fun _ _ => rfl)) (pe_fld (pv 0) rfl) (nomark _))))) (pss_one (ps_ret pe_str)) pss_nil)
      (pss_cons (ps_if (PW.pt (pw_and (pt_cmpR op_eq (pv 2) pe_str (nomark _)) (pw_and1 (pt_cmp (pc_dnotin hu (pe_ix ix_tup (pv 1) pe_int (fun _ _ => rfl)) (pe_fld (pv 0) rfl)))))) (pss_one (ps_ret pe_str)) pss_nil)
      (pss_cons (ps_if (PW.pt (pw_and (pt_cmpR op_ne (pv 2) pe_str (nomark _)) (pw_and1 (pt_cmpR op_isN (pe_fld (pv 0) rfl) pe_non (nomark _))))) (pss_one (ps_ret pe_str)) pss_nil)
      (pss_cons (ps_if (PW.pt (pw_and (pt_cmpR op_eq (pv 2) pe_str (nomark _)) (pw_and1 (pt_cmpR op_ge (pe_op op_add (pe_fld (pv 0) rfl) (pe_ix ix_tup (pv 1) pe_int (fun _ _ => rfl))) (pe_fld (pv 0) rfl) (nomark _))))) (pss_one (ps_ret pe_str)) pss_nil)
      (pss_cons (ps_if (PW.pt (pw_and (pt_cmpR op_eq (pv 2) pe_str (nomark _)) (pw_and1 (pt_cmpR op_ne (pe_fld (pv 0) rfl) (pe_op op_sub (pe_fld (pv 0) rfl) pe_int) (nomark _))))) (pss_one (ps_ret pe_str)) pss_nil)
      (pss_one (ps_ret pe_non))))))))), ?_⟩
    refine ⟨_, rfl, v, r, rfl, hR, fun H1 s1 => ⟨_, rfl, ?_⟩⟩
    have J1 := J.same s1
    obtain ⟨⟨dx, h1⟩, hd⟩ := id J1
    cases ha : actR r with
    | none =>
      have e : reasonF slots js.place js.front js.full r = some ("form" : Str) := by unfold reasonF; rw [ha]
      rw [e] at k
      exact iteT (k H1 s1)
    | some a =>
    have eF : reasonF slots js.place js.front js.full r = if js.front = 0 then some ("done" : Str) else reasonA slots js.place js.front js.full a := by unfold reasonF; rw [ha]
    rw [eF] at k
    refine iteF ⟨_, rfl, p, C, dx, _, _, rfl, h1, T.cl, T.nF, jf_front, rfl, _, rfl, iteD (fun e => ?_) (fun e => ?_)⟩
    · have k2 := k H1 s1
      rw [if_pos (V.int.inj e)] at k2
      exact k2
    have nf : ¬ js.front = 0 := fun z => e (by rw [z])
    rw [if_neg nf] at k
    obtain ⟨t, xs, rfl, ht, hx⟩ := act_shape hR ha
    have ht1 := s1 _ _ ht
    rcases hx with ⟨rfl, rfl⟩ | ⟨n, rfl, hn, rfl⟩ | ⟨n, rfl, hn, rfl⟩ | ⟨n, rfl, hn, rfl⟩
    · -- turn
      refine ⟨_, rfl, t, _, _, _, rfl, rfl, SqT.of ht1, atI_nat (j := 0) rfl, _, rfl, (by show 2 ≤ sizeLine; decide), fun q hq => ⟨q, _, rfl, .inr (SqT.of upd_same), rfl, rfl, _, rfl, ?_⟩⟩
      have s2 : Same H (upd H1 q (.tup twoV)) := s1.trans (upd_sm hq)
      have h2 := (upd_sm (o := .tup twoV) hq) _ _ h1
      rw [show (if false = true then !inV zTurn twoV else inV zTurn twoV) = false from in_t]
      refine iteF (iteF ?_)
      refine ⟨_, rfl, rfl, _, rfl, iteD (fun z => absurd z (v_str s_tr)) (fun _ => iteF ?_)⟩
      refine ⟨_, rfl, rfl, _, rfl, iteND (fun _ => ?_) (fun z => absurd z (v_str s_tr))⟩
      refine ⟨_, rfl, p, C, dx, _, _, rfl, h2, T.cl, T.nP, jf_pos, rfl, _, rfl, ?_⟩
      by_cases c : js.place < 0
      · have k2 := k _ s2
        rw [show reasonA slots js.place js.front js.full .turn = some ("nowhere" : Str) from if_pos c] at k2
        rw [posV_neg c]
        exact k2
      · rw [show reasonA slots js.place js.front js.full .turn = _ from if_neg c] at k
        rw [posV_int c]
        refine ⟨_, rfl, rfl, _, rfl, iteD (fun z => absurd z (v_str s_ta)) (fun _ => iteF ?_)⟩
        refine ⟨_, rfl, rfl, _, rfl, iteD (fun _ => ?_) (fun z => absurd rfl z)⟩
        refine ⟨_, rfl, p, C, dx, _, _, rfl, h2, T.cl, T.nP, jf_pos, _, rfl, p, C, dx, _, _, rfl, h2, T.cl, T.nF, jf_front, _, _, rfl, rfl, ?_⟩
        rw [posV_int c]
        refine ⟨rfl, _, rfl, iteND (fun z => ?_) (fun z => ?_)⟩
        · have k2 := k _ s2
          rw [if_neg (fun y => z (congrArg V.int y))] at k2
          exact k2
        · have k2 := k _ s2
          rw [if_pos (V.int.inj z)] at k2
          exact k2
    · -- advance
      refine ⟨_, rfl, t, _, _, _, rfl, rfl, SqT.of ht1, atI_nat (j := 0) rfl, _, rfl, (by show 2 ≤ sizeLine; decide), fun q hq => ⟨q, _, rfl, .inr (SqT.of upd_same), rfl, rfl, _, rfl, ?_⟩⟩
      have s2 : Same H (upd H1 q (.tup twoV)) := s1.trans (upd_sm hq)
      have h2 := (upd_sm (o := .tup twoV) hq) _ _ h1
      have ht2 := s2 _ _ ht
      rw [show (if false = true then !inV (.str "advance") twoV else inV (.str "advance") twoV) = false from in_a]
      refine iteF (iteF ?_)
      refine ⟨_, rfl, rfl, _, rfl, iteD (fun z => absurd z (v_str s_ar)) (fun _ => iteF ?_)⟩
      refine ⟨_, rfl, rfl, _, rfl, iteND (fun _ => ?_) (fun z => absurd z (v_str s_ar))⟩
      refine ⟨_, rfl, p, C, dx, _, _, rfl, h2, T.cl, T.nP, jf_pos, rfl, _, rfl, ?_⟩
      by_cases c : js.place < 0
      · have k2 := k _ s2
        rw [show reasonA slots js.place js.front js.full (.adv n) = some ("nowhere" : Str) from if_pos c] at k2
        rw [posV_neg c]
        exact k2
      · rw [show reasonA slots js.place js.front js.full (.adv n) = _ from if_neg c] at k
        rw [posV_int c]
        refine ⟨_, rfl, rfl, _, rfl, iteD (fun _ => ?_) (fun z => absurd rfl z)⟩
        refine ⟨_, rfl, p, C, dx, _, _, rfl, h2, T.cl, T.nP, jf_pos, _, rfl, t, _, _, _, rfl, rfl, SqT.of ht2, atI_nat (j := 1) rfl, ?_⟩
        rw [posV_int c]
        refine ⟨_, _, rfl, rfl, _, rfl, p, C, dx, _, _, rfl, h2, T.cl, T.nF, jf_front, _, _, rfl, rfl, _, rfl, iteD (fun z => ?_) (fun z => ?_)⟩
        · have k2 := k _ s2
          rw [if_pos z] at k2
          exact k2
        · have k2 := k _ s2
          rw [if_neg z] at k2
          exact ⟨_, rfl, rfl, _, rfl, iteD (fun z => absurd z (v_str s_at)) (fun _ => iteF k2)⟩
    · -- keep
      refine ⟨_, rfl, t, _, _, _, rfl, rfl, SqT.of ht1, atI_nat (j := 0) rfl, _, rfl, (by show 2 ≤ sizeLine; decide), fun q hq => ⟨q, _, rfl, .inr (SqT.of upd_same), rfl, rfl, _, rfl, ?_⟩⟩
      have s2 : Same H (upd H1 q (.tup twoV)) := s1.trans (upd_sm hq)
      have h2 := (upd_sm (o := .tup twoV) hq) _ _ h1
      have ht2 := s2 _ _ ht
      rw [show (if false = true then !inV (.str "keep") twoV else inV (.str "keep") twoV) = true from in_k]
      refine iteT ⟨_, rfl, t, _, _, _, rfl, rfl, SqT.of ht2, atI_nat (j := 1) rfl, _, rfl, p, C, dx, _, _, rfl, h2, T.cl, T.nS, jf_slots, _, _, rfl, rfl, _, rfl, iteD (fun z => ?_) (fun z => ?_)⟩
      · have k2 := k _ s2
        rw [show reasonA slots js.place js.front js.full (.keep n) = some ("slot" : Str) from if_pos z] at k2
        exact k2
      · rw [show reasonA slots js.place js.front js.full (.keep n) = _ from if_neg z] at k
        refine ⟨_, rfl, rfl, _, rfl, iteD (fun z => absurd z (v_str s_kr)) (fun _ => iteF ?_)⟩
        refine ⟨_, rfl, rfl, _, rfl, iteND (fun _ => ?_) (fun z => absurd z (v_str s_kr))⟩
        refine ⟨_, rfl, p, C, dx, _, _, rfl, h2, T.cl, T.nP, jf_pos, rfl, _, rfl, ?_⟩
        by_cases c : js.place < 0
        · have k2 := k _ s2
          rw [if_pos c] at k2
          rw [posV_neg c]
          exact k2
        · have k2 := k _ s2
          rw [if_neg c] at k2
          rw [posV_int c]
          refine ⟨_, rfl, rfl, _, rfl, iteD (fun z => absurd z (v_str s_ka)) (fun _ => iteF ?_)⟩
          exact ⟨_, rfl, rfl, _, rfl, iteD (fun z => absurd z (v_str s_kt)) (fun _ => iteF k2)⟩
    · -- restore
      refine ⟨_, rfl, t, _, _, _, rfl, rfl, SqT.of ht1, atI_nat (j := 0) rfl, _, rfl, (by show 2 ≤ sizeLine; decide), fun q hq => ⟨q, _, rfl, .inr (SqT.of upd_same), rfl, rfl, _, rfl, ?_⟩⟩
      have s2 : Same H (upd H1 q (.tup twoV)) := s1.trans (upd_sm hq)
      have h2 := (upd_sm (o := .tup twoV) hq) _ _ h1
      have hd2 := (upd_sm (o := .tup twoV) hq) _ _ hd
      have ht2 := s2 _ _ ht
      rw [show (if false = true then !inV (.str "restore") twoV else inV (.str "restore") twoV) = true from in_r]
      refine iteT ⟨_, rfl, t, _, _, _, rfl, rfl, SqT.of ht2, atI_nat (j := 1) rfl, _, rfl, p, C, dx, _, _, rfl, h2, T.cl, T.nS, jf_slots, _, _, rfl, rfl, _, rfl, iteD (fun z => ?_) (fun z => ?_)⟩
      · have k2 := k _ s2
        rw [show reasonA slots js.place js.front js.full (.rest n) = some ("slot" : Str) from if_pos z] at k2
        exact k2
      · rw [show reasonA slots js.place js.front js.full (.rest n) = _ from if_neg z] at k
        refine ⟨_, rfl, rfl, _, rfl, iteD (fun _ => ?_) (fun z => absurd rfl z)⟩
        refine ⟨_, rfl, t, _, _, _, rfl, rfl, SqT.of ht2, atI_nat (j := 1) rfl, _, rfl, p, C, dx, _, _, rfl, h2, T.cl, T.nU, jf_full, d, _, rfl, DGet.k (k := Sum.inl n) hd2, _, rfl, ?_⟩
        cases ev : valV js.full (Sum.inl n : Key) with
        | none =>
          have k2 := k _ s2
          rw [ev] at k2
          exact iteT k2
        | some u =>
          have k2 := k _ s2
          rw [ev] at k2
          refine iteF ⟨_, rfl, rfl, _, rfl, iteND (fun z => absurd rfl z) (fun _ => iteF ?_)⟩
          refine ⟨_, rfl, rfl, _, rfl, iteD (fun z => absurd z (v_str s_ra)) (fun _ => iteF ?_)⟩
          exact ⟨_, rfl, rfl, _, rfl, iteD (fun z => absurd z (v_str s_rt)) (fun _ => iteF k2)⟩
end
end L2.Kt

/-! # Judging.perform, _law_reason -/
namespace L2.Kt
open PySem PySem.Spec PyProof.Rows PySem.KtX
theorem keep_pos {slots place front : Int} {full : Full} {n : Int} (h : reasonA slots place front full (.keep n) = none) : ¬ place < 0 := by
  intro c
  unfold reasonA at h
  by_cases z : slots ≤ n
  · simp [z] at h
  · simp [z, c] at h
theorem adv_pos {slots place front : Int} {full : Full} {n : Int} (h : reasonA slots place front full (.adv n) = none) : ¬ place < 0 := by
  intro c
  unfold reasonA at h
  simp [c] at h
theorem rest_at {slots place front : Int} {full : Full} {n : Int} (h : reasonA slots place front full (.rest n) = none) : (valV full (.inl n)).isSome = true := by
  unfold reasonA at h
  by_cases z : slots ≤ n
  · simp [z] at h
  · cases e : (valV full (.inl n)).isSome with
    | true => rfl
    | false => simp [z, e] at h
section
variable {P : Program} {w : World} {K : PySem.W.Frag} {mg : Str → Option Value} {base : Heap}
/-! ### perform -/
def spJPerform (C : Addr) : Sp := fun vs H Q _ => ∃ (p d : Addr) (slots : Int) (js : JS) (v : V) (r : Rw) (a : Act) (i : Nat), vs = [.ref p, v] ∧ JAt C H p d slots js ∧ RowAt H v r ∧ WFj js i ∧ i ≤ 1000 ∧ reasonF slots js.place js.front js.full r = none ∧ actR r = some a ∧
  ∀ H', JAt C H' p d slots (stepA js a) → (∀ b o, b ≠ p → b ≠ d → H b = some o → H' b = some o) → Q .non H'
theorem scJP : FnScope ["self", "action", "op"] ["self", "action"] (defScope sJPerform) := ⟨rfl, rfl, rfl, by decide +kernel, rfl, by decide +kernel, by decide +kernel⟩
theorem ok_jperform {f C : Addr} {fd : FuncData} (F : Fun K "perform" "Judging.perform" sJPerform f fd) (T : JTxt K C) : FnOk P w K mg base CX0 1 f fd ["self", "action"] (spJPerform C) := by
  refine F.ok scJP (fun vs H Q E h => ?_) (fun cdv A outer s H vs Q E hr h => ?_)
  · obtain ⟨p, d, slots, js, v, r, a, i, rfl, _⟩ := h
    rfl
  · obtain ⟨p, d, slots, js, v, r, a, i, rfl, J, hR, W, hi, hn, ha, k⟩ := h
    have hu := hu_of hr
    have npd := J.ne
    obtain ⟨a', e', nf, hA⟩ := reason_none hn
    rw [ha] at e'
    cases e'
    obtain ⟨⟨dx, h1⟩, hd⟩ := id J
    have J0 : ∀ {H' : Hp} {js' : JS} {fs : List (Str × V)}, fs = jf js'.front slots (posV js'.place) d js'.cost → H' d = some (.dK js'.full) → JAt C (upd H' p (.ins C dx fs)) p d slots js' := fun {H' js' fs} ef hd' => ⟨⟨dx, by rw [upd_same, ef]⟩, by rw [upd_ne (Ne.symm npd)]; exact hd'⟩
    refine ⟨_, pss_cons (ps_set (i := 2) scJP.nd rfl (Or.inl rfl) (pe_ix ix_tup (pv 1) pe_int (fun _ _ => rfl)))
      (pss_one (ps_if (pt_cmpR op_eq (pv 2) pe_str (nomark _)) (pss_one (ps_dput hu (pe_fld (pv 0) rfl) (pe_ix ix_tup (pv 1) pe_int (fun _ _ => rfl)) (pe_fld (pv 0) rfl) rfl))
        (pss_one (ps_if (pt_cmpR op_eq (pv 2) pe_str (nomark _)) (pss_one (ps_fld (pv 0) (pe_dget hu (pe_fld (pv 0) rfl) (pe_ix ix_tup (pv 1) pe_int (fun _ _ => rfl)) (fun _ _ => rfl)) rfl))
          (pss_one (ps_if (pt_cmpR op_eq (pv 2) pe_str (nomark _)) (pss_cons (ps_fld (pv 0) (pe_op op_add (pe_fld (pv 0) rfl) (pe_ix ix_tup (pv 1) pe_int (fun _ _ => rfl))) rfl) (pss_one (ps_fld (pv 0) (pe_op op_add (pe_fld (pv 0) rfl) (pe_ix ix_tup (pv 1) pe_int (fun _ _ => rfl))) rfl)))
            (pss_cons (ps_fld (pv 0) pe_non rfl) (pss_one (ps_fld (pv 0) (pe_op op_sub (pe_fld (pv 0) rfl) pe_int) rfl))))))))), ?_⟩
    obtain ⟨t, xs, rfl, ht, hx⟩ := act_shape hR ha
    have htp : t ≠ p := ne_of ht h1 (by intro z; cases z)
    rcases hx with ⟨rfl, rfl⟩ | ⟨n, rfl, hn1, rfl⟩ | ⟨n, rfl, hn1, rfl⟩ | ⟨n, rfl, hn1, rfl⟩
    · -- turn
      refine ⟨_, rfl, t, _, _, _, rfl, rfl, SqT.of ht, atI_nat (j := 0) rfl, ?_⟩
      refine ⟨_, rfl, rfl, _, rfl, iteD (fun z => absurd z (v_str s_tk)) (fun _ => ⟨_, rfl, rfl, _, rfl, iteD (fun z => absurd z (v_str s_tr)) (fun _ => ⟨_, rfl, rfl, _, rfl, iteD (fun z => absurd z (v_str s_ta)) (fun _ => ?_)⟩)⟩)⟩
      refine ⟨_, rfl, p, C, dx, _, rfl, h1, T.cl, T.nP, (by show 5 < 1000; decide), ?_⟩
      rw [jf_putP]
      refine ⟨_, rfl, p, C, dx, _, _, rfl, upd_same, T.cl, T.nF, jf_front, _, _, rfl, rfl, _, rfl, p, C, dx, _, rfl, upd_same, T.cl, T.nF, (by show 5 < 1000; decide), ?_⟩
      rw [jf_putF]
      refine k _ (J0 (js' := stepA js .turn) rfl (by rw [upd_ne (Ne.symm npd)]; exact hd)) fun b o hb hb2 e => ?_
      rw [upd_ne hb, upd_ne hb]
      exact e
    · -- advance
      have np := adv_pos hA
      refine ⟨_, rfl, t, _, _, _, rfl, rfl, SqT.of ht, atI_nat (j := 0) rfl, ?_⟩
      refine ⟨_, rfl, rfl, _, rfl, iteD (fun z => absurd z (v_str s_ak)) (fun _ => ⟨_, rfl, rfl, _, rfl, iteD (fun z => absurd z (v_str s_ar)) (fun _ => ⟨_, rfl, rfl, _, rfl, iteD (fun _ => ?_) (fun z => absurd rfl z)⟩)⟩)⟩
      refine ⟨_, rfl, p, C, dx, _, _, rfl, h1, T.cl, T.nP, jf_pos, _, rfl, t, _, _, _, rfl, rfl, SqT.of ht, atI_nat (j := 1) rfl, js.place, n, posV_int np, rfl, _, rfl, p, C, dx, _, rfl, h1, T.cl, T.nP, (by show 5 < 1000; decide), ?_⟩
      rw [jf_putP]
      refine ⟨_, rfl, p, C, dx, _, _, rfl, upd_same, T.cl, T.nC, jf_cost, _, rfl, t, _, _, _, rfl, rfl, SqT.of (by rw [upd_ne htp]; exact ht), atI_nat (j := 1) rfl, _, _, rfl, rfl, _, rfl, p, C, dx, _, rfl, upd_same, T.cl, T.nC, (by show 5 < 1000; decide), ?_⟩
      rw [jf_putC]
      refine k _ (J0 (js' := stepA js (.adv n)) ?_ (by rw [upd_ne (Ne.symm npd)]; exact hd)) fun b o hb hb2 e => ?_
      · show jf js.front slots (.int (js.place + n)) d (js.cost + n) = jf js.front slots (posV (js.place + n)) d (js.cost + n)
        rw [posV_int (by omega)]
      · rw [upd_ne hb, upd_ne hb]
        exact e
    · -- keep
      have np := keep_pos hA
      refine ⟨_, rfl, t, _, _, _, rfl, rfl, SqT.of ht, atI_nat (j := 0) rfl, ?_⟩
      refine ⟨_, rfl, rfl, _, rfl, iteD (fun _ => ?_) (fun z => absurd rfl z)⟩
      refine ⟨_, rfl, p, C, dx, _, _, rfl, h1, T.cl, T.nP, jf_pos, _, rfl, p, C, dx, _, _, rfl, h1, T.cl, T.nU, jf_full, _, rfl, t, _, _, _, rfl, rfl, SqT.of ht, atI_nat (j := 1) rfl, d, _, rfl, DPut.k (k := Sum.inl n) hd (small1000 (by have := W.len; omega)), ?_⟩
      rw [posV_int np]
      refine k _ ⟨⟨dx, ?_⟩, upd_same⟩ fun b o hb hb2 e => ?_
      · rw [upd_ne npd]
        exact h1
      · rw [upd_ne hb2]
        exact e
    · -- restore
      obtain ⟨u, hv⟩ := Option.isSome_iff_exists.mp (rest_at hA)
      obtain ⟨z, hz, rfl⟩ := wfd_val W.wf hv
      refine ⟨_, rfl, t, _, _, _, rfl, rfl, SqT.of ht, atI_nat (j := 0) rfl, ?_⟩
      refine ⟨_, rfl, rfl, _, rfl, iteD (fun z => absurd z (v_str s_rk)) (fun _ => ⟨_, rfl, rfl, _, rfl, iteD (fun _ => ?_) (fun z => absurd rfl z)⟩)⟩
      refine ⟨_, rfl, p, C, dx, _, _, rfl, h1, T.cl, T.nU, jf_full, _, rfl, t, _, _, _, rfl, rfl, SqT.of ht, atI_nat (j := 1) rfl, d, V.int z, rfl, hv ▸ DGet.k (k := Sum.inl n) hd, _, rfl, p, C, dx, _, rfl, h1, T.cl, T.nP, (by show 5 < 1000; decide), ?_⟩
      rw [jf_putP]
      refine k _ (J0 (js' := stepA js (.rest n)) ?_ hd) fun b o hb hb2 e => ?_
      · show jf js.front slots (.int z) d js.cost = jf js.front slots (posV (intOf (valV js.full (.inl n)))) d js.cost
        rw [hv, show intOf (some (V.int z)) = z from rfl, posV_int (by omega)]
      · rw [upd_ne hb]
        exact e
/-! ### _law_reason -/
def spLReason : Sp := fun vs H Q _ => ∃ (v : V) (r : Rw) (place front : Int) (d : Addr) (full : Full) (slots : Int), vs = [v, .int place, .int front, .ref d, .int slots] ∧ RowAt H v r ∧ H d = some (.dK full) ∧ ∀ H', Same H H' → Q (optV (reasonF slots place front full r)) H'
abbrev psLR : List Str := ["_law_action_here", "_law_place", "_law_front", "_law_full", "_law_slots"]
theorem scLR : FnScope psLR psLR (defScope sLReason) := ⟨rfl, rfl, rfl, by decide +kernel, rfl, by decide +kernel, by decide +kernel⟩
theorem ok_lreason {f fA fI : Addr} {fd fdA fdI : FuncData} (F : Fun K "_law_reason" "_law_reason" sLReason f fd) (B : Blt mg) (FA : Fun K "_law_action" "_law_action" sLAct fA fdA) (gA : mg "_law_action" = some (.ref fA)) (bA : Binds K fdA ["_law_action_here"] [])
    (FI : Fun K "_law_integer" "_law_integer" sLInt fI fdI) (gI : mg "_law_integer" = some (.ref fI)) (bI : Binds K fdI ["_law_value", "_law_low"] []) : FnOk P w K mg base CX0 3 f fd psLR spLReason := by
  have GA : FnOk P w K mg base CX0 2 fA fdA ["_law_action_here"] spAct := ok_lAct FA B FI gI bI
  refine F.ok scLR (fun vs H Q E h => ?_) (fun cdv A outer s H vs Q E hr h => ?_)
  · obtain ⟨v, r, place, front, d, full, slots, rfl, _⟩ := h
    rfl
  · obtain ⟨v, r, place, front, d, full, slots, rfl, hR, hd0, k⟩ := h
    have hu := hu_of hr
    refine ⟨_, pss_cons (ps_if (pt_not (pt_val (pe_call GA hr (by rfl) gA FA.kp bA .nil pass0 (pa_cons (pv 0) pa_nil)))) (pss_one (ps_ret pe_str)) pss_nil)
      (pss_cons (ps_if (pt_cmpR op_eq (pv 2) pe_int (nomark _)) (pss_one (ps_ret pe_str)) pss_nil)
      (pss_cons (ps_if (PW.pt (pw_and (pt_cmpR op_in_seq (pe_ix ix_tup (pv 0) pe_int (fun _ _ => rfl)) (pe_tup (pa_cons pe_str (pa_cons pe_str pa_nil))) (by rfl)) (pw_and1 (pt_cmpR op_ge (pe_ix ix_tup (pv 0) pe_int (fun _ _ => rfl)) (pv 4) (nomark _))))) (pss_one (ps_ret pe_str)) pss_nil)
      (pss_cons (ps_if (PW.pt (pw_and (pt_cmpR op_eq (pe_ix ix_tup (pv 0) pe_int (fun _ _ => rfl)) pe_str (nomark _)) (pw_and1 (pt_cmp (pc_dnotin hu (pe_ix ix_tup (pv 0) pe_int (fun _ _ => rfl)) (pv 3)))))) (pss_one (ps_ret pe_str)) pss_nil)
      (pss_cons (ps_if (PW.pt (pw_and (pt_cmpR op_ne (pe_ix ix_tup (pv 0) pe_int (fun _ _ => rfl)) pe_str (nomark _)) (pw_and1 (pt_cmpR op_lt (pv 1) pe_int (nomark _))))) (pss_one (ps_ret pe_str)) pss_nil)
      (pss_cons (ps_if (PW.pt (pw_and (pt_cmpR op_eq (pe_ix ix_tup (pv 0) pe_int (fun _ _ => rfl)) pe_str (nomark _)) (pw_and1 (pt_cmpR op_ge (pe_op op_add (pv 1) (pe_ix ix_tup (pv 0) pe_int (fun _ _ => rfl))) (pv 2) (nomark _))))) (pss_one (ps_ret pe_str)) pss_nil)
      (pss_cons (ps_if (PW.pt (pw_and (pt_cmpR op_eq (pe_ix ix_tup (pv 0) pe_int (fun _ _ => rfl)) pe_str (nomark _)) (pw_and1 (pt_cmpR op_ne (pv 1) (pe_op op_sub (pv 2) pe_int) (nomark _))))) (pss_one (ps_ret pe_str)) pss_nil)
      (pss_one (ps_ret pe_non)))))))), ?_⟩
    refine ⟨_, rfl, v, r, rfl, hR, fun H1 s1 => ⟨_, rfl, ?_⟩⟩
    have hd := s1 _ _ hd0
    cases ha : actR r with
    | none =>
      have e : reasonF slots place front full r = some ("form" : Str) := by unfold reasonF; rw [ha]
      rw [e] at k
      exact iteT (k H1 s1)
    | some a =>
    have eF : reasonF slots place front full r = if front = 0 then some ("done" : Str) else reasonA slots place front full a := by unfold reasonF; rw [ha]
    rw [eF] at k
    refine iteF ⟨_, rfl, rfl, _, rfl, iteD (fun e => ?_) (fun e => ?_)⟩
    · have k2 := k H1 s1
      rw [if_pos (V.int.inj e)] at k2
      exact k2
    have nf : ¬ front = 0 := fun z => e (by rw [z])
    rw [if_neg nf] at k
    obtain ⟨t, xs, rfl, ht, hx⟩ := act_shape hR ha
    have ht1 := s1 _ _ ht
    rcases hx with ⟨rfl, rfl⟩ | ⟨n, rfl, hn, rfl⟩ | ⟨n, rfl, hn, rfl⟩ | ⟨n, rfl, hn, rfl⟩
    · -- turn
      refine ⟨_, rfl, t, _, _, _, rfl, rfl, SqT.of ht1, atI_nat (j := 0) rfl, (by show 2 ≤ sizeLine; decide), fun q hq => ⟨q, _, rfl, .inr (SqT.of upd_same), rfl, rfl, _, rfl, ?_⟩⟩
      have s2 : Same H (upd H1 q (.tup twoV)) := s1.trans (upd_sm hq)
      have ht2 := s2 _ _ ht
      rw [show (if false = true then !inV zTurn twoV else inV zTurn twoV) = false from in_t]
      refine iteF (iteF ?_)
      refine ⟨_, rfl, t, _, _, _, rfl, rfl, SqT.of ht2, atI_nat (j := 0) rfl, rfl, _, rfl, iteD (fun z => absurd z (v_str s_tr)) (fun _ => iteF ?_)⟩
      refine ⟨_, rfl, t, _, _, _, rfl, rfl, SqT.of ht2, atI_nat (j := 0) rfl, rfl, _, rfl, iteND (fun _ => ?_) (fun z => absurd z (v_str s_tr))⟩
      refine ⟨_, rfl, _, _, rfl, rfl, _, rfl, iteD (fun c => ?_) (fun c => ?_)⟩
      · have k2 := k _ s2
        rw [show reasonA slots place front full .turn = some ("nowhere" : Str) from if_pos c] at k2
        exact k2
      · rw [show reasonA slots place front full .turn = _ from if_neg c] at k
        refine ⟨_, rfl, t, _, _, _, rfl, rfl, SqT.of ht2, atI_nat (j := 0) rfl, rfl, _, rfl, iteD (fun z => absurd z (v_str s_ta)) (fun _ => iteF ?_)⟩
        refine ⟨_, rfl, t, _, _, _, rfl, rfl, SqT.of ht2, atI_nat (j := 0) rfl, rfl, _, rfl, iteD (fun _ => ?_) (fun z => absurd rfl z)⟩
        refine ⟨_, rfl, _, rfl, _, _, rfl, rfl, rfl, _, rfl, iteND (fun z => ?_) (fun z => ?_)⟩
        · have k2 := k _ s2
          rw [if_neg (fun y => z (congrArg V.int y))] at k2
          exact k2
        · have k2 := k _ s2
          rw [if_pos (V.int.inj z)] at k2
          exact k2
    · -- advance
      refine ⟨_, rfl, t, _, _, _, rfl, rfl, SqT.of ht1, atI_nat (j := 0) rfl, (by show 2 ≤ sizeLine; decide), fun q hq => ⟨q, _, rfl, .inr (SqT.of upd_same), rfl, rfl, _, rfl, ?_⟩⟩
      have s2 : Same H (upd H1 q (.tup twoV)) := s1.trans (upd_sm hq)
      have ht2 := s2 _ _ ht
      rw [show (if false = true then !inV (.str "advance") twoV else inV (.str "advance") twoV) = false from in_a]
      refine iteF (iteF ?_)
      refine ⟨_, rfl, t, _, _, _, rfl, rfl, SqT.of ht2, atI_nat (j := 0) rfl, rfl, _, rfl, iteD (fun z => absurd z (v_str s_ar)) (fun _ => iteF ?_)⟩
      refine ⟨_, rfl, t, _, _, _, rfl, rfl, SqT.of ht2, atI_nat (j := 0) rfl, rfl, _, rfl, iteND (fun _ => ?_) (fun z => absurd z (v_str s_ar))⟩
      refine ⟨_, rfl, _, _, rfl, rfl, _, rfl, iteD (fun c => ?_) (fun c => ?_)⟩
      · have k2 := k _ s2
        rw [show reasonA slots place front full (.adv n) = some ("nowhere" : Str) from if_pos c] at k2
        exact k2
      · rw [show reasonA slots place front full (.adv n) = _ from if_neg c] at k
        refine ⟨_, rfl, t, _, _, _, rfl, rfl, SqT.of ht2, atI_nat (j := 0) rfl, rfl, _, rfl, iteD (fun _ => ?_) (fun z => absurd rfl z)⟩
        refine ⟨_, rfl, _, rfl, t, _, _, _, rfl, rfl, SqT.of ht2, atI_nat (j := 1) rfl, _, _, rfl, rfl, _, rfl, _, _, rfl, rfl, _, rfl, iteD (fun z => ?_) (fun z => ?_)⟩
        · have k2 := k _ s2
          rw [if_pos z] at k2
          exact k2
        · have k2 := k _ s2
          rw [if_neg z] at k2
          exact ⟨_, rfl, t, _, _, _, rfl, rfl, SqT.of ht2, atI_nat (j := 0) rfl, rfl, _, rfl, iteD (fun z => absurd z (v_str s_at)) (fun _ => iteF k2)⟩
    · -- keep
      refine ⟨_, rfl, t, _, _, _, rfl, rfl, SqT.of ht1, atI_nat (j := 0) rfl, (by show 2 ≤ sizeLine; decide), fun q hq => ⟨q, _, rfl, .inr (SqT.of upd_same), rfl, rfl, _, rfl, ?_⟩⟩
      have s2 : Same H (upd H1 q (.tup twoV)) := s1.trans (upd_sm hq)
      have ht2 := s2 _ _ ht
      rw [show (if false = true then !inV (.str "keep") twoV else inV (.str "keep") twoV) = true from in_k]
      refine iteT ⟨_, rfl, t, _, _, _, rfl, rfl, SqT.of ht2, atI_nat (j := 1) rfl, _, rfl, _, _, rfl, rfl, _, rfl, iteD (fun z => ?_) (fun z => ?_)⟩
      · have k2 := k _ s2
        rw [show reasonA slots place front full (.keep n) = some ("slot" : Str) from if_pos z] at k2
        exact k2
      · rw [show reasonA slots place front full (.keep n) = _ from if_neg z] at k
        refine ⟨_, rfl, t, _, _, _, rfl, rfl, SqT.of ht2, atI_nat (j := 0) rfl, rfl, _, rfl, iteD (fun z => absurd z (v_str s_kr)) (fun _ => iteF ?_)⟩
        refine ⟨_, rfl, t, _, _, _, rfl, rfl, SqT.of ht2, atI_nat (j := 0) rfl, rfl, _, rfl, iteND (fun _ => ?_) (fun z => absurd z (v_str s_kr))⟩
        refine ⟨_, rfl, _, _, rfl, rfl, _, rfl, iteD (fun c => ?_) (fun c => ?_)⟩
        · have k2 := k _ s2
          rw [if_pos c] at k2
          exact k2
        · have k2 := k _ s2
          rw [if_neg c] at k2
          refine ⟨_, rfl, t, _, _, _, rfl, rfl, SqT.of ht2, atI_nat (j := 0) rfl, rfl, _, rfl, iteD (fun z => absurd z (v_str s_ka)) (fun _ => iteF ?_)⟩
          exact ⟨_, rfl, t, _, _, _, rfl, rfl, SqT.of ht2, atI_nat (j := 0) rfl, rfl, _, rfl, iteD (fun z => absurd z (v_str s_kt)) (fun _ => iteF k2)⟩
    · -- restore
      refine ⟨_, rfl, t, _, _, _, rfl, rfl, SqT.of ht1, atI_nat (j := 0) rfl, (by show 2 ≤ sizeLine; decide), fun q hq => ⟨q, _, rfl, .inr (SqT.of upd_same), rfl, rfl, _, rfl, ?_⟩⟩
      have s2 : Same H (upd H1 q (.tup twoV)) := s1.trans (upd_sm hq)
      have hd2 := (upd_sm (o := .tup twoV) hq) _ _ hd
      have ht2 := s2 _ _ ht
      rw [show (if false = true then !inV (.str "restore") twoV else inV (.str "restore") twoV) = true from in_r]
      refine iteT ⟨_, rfl, t, _, _, _, rfl, rfl, SqT.of ht2, atI_nat (j := 1) rfl, _, rfl, _, _, rfl, rfl, _, rfl, iteD (fun z => ?_) (fun z => ?_)⟩
      · have k2 := k _ s2
        rw [show reasonA slots place front full (.rest n) = some ("slot" : Str) from if_pos z] at k2
        exact k2
      · rw [show reasonA slots place front full (.rest n) = _ from if_neg z] at k
        refine ⟨_, rfl, t, _, _, _, rfl, rfl, SqT.of ht2, atI_nat (j := 0) rfl, rfl, _, rfl, iteD (fun _ => ?_) (fun z => absurd rfl z)⟩
        refine ⟨_, rfl, t, _, _, _, rfl, rfl, SqT.of ht2, atI_nat (j := 1) rfl, _, rfl, d, _, rfl, DGet.k (k := Sum.inl n) hd2, _, rfl, ?_⟩
        cases ev : valV full (Sum.inl n : Key) with
        | none =>
          have k2 := k _ s2
          rw [ev] at k2
          exact iteT k2
        | some u =>
          have k2 := k _ s2
          rw [ev] at k2
          refine iteF ⟨_, rfl, t, _, _, _, rfl, rfl, SqT.of ht2, atI_nat (j := 0) rfl, rfl, _, rfl, iteND (fun z => absurd rfl z) (fun _ => iteF ?_)⟩
          refine ⟨_, rfl, t, _, _, _, rfl, rfl, SqT.of ht2, atI_nat (j := 0) rfl, rfl, _, rfl, iteD (fun z => absurd z (v_str s_ra)) (fun _ => iteF ?_)⟩
          exact ⟨_, rfl, t, _, _, _, rfl, rfl, SqT.of ht2, atI_nat (j := 0) rfl, rfl, _, rfl, iteD (fun z => absurd z (v_str s_rt)) (fun _ => iteF k2)⟩
end
end L2.Kt

/-! # judge -/
namespace L2.Kt
open PySem PySem.Spec PyProof.Rows PySem.KtX
theorem RowAt.same {H H' : Hp} {v : V} {r : Rw} (h : RowAt H v r) (s : Same H H') : RowAt H' v r := by
  cases r with
  | flat x => exact h
  | tup xs => obtain ⟨p, e, hp, z⟩ := h; exact ⟨p, e, s _ _ hp, z⟩
  | lst xs => obtain ⟨p, e, hp, z⟩ := h; exact ⟨p, e, s _ _ hp, z⟩
theorem RowsAt.at_ {H : Hp} {xs : List V} {rs : List Rw} (h : RowsAt H xs rs) : ∀ {i : Nat} {x : V}, xs[i]? = some x → ∃ r, rs[i]? = some r ∧ RowAt H x r := by
  unfold RowsAt at h
  induction h with
  | nil => intro i x e; cases i <;> cases e
  | cons a b ih =>
    intro i x e
    cases i with
    | zero => cases e; exact ⟨_, rfl, a⟩
    | succ i => exact ih e
theorem RowsAt.same {H H' : Hp} {xs : List V} {rs : List Rw} (h : RowsAt H xs rs) (s : Same H H') : RowsAt H' xs rs := by
  unfold RowsAt at h ⊢
  induction h with
  | nil => exact .nil
  | cons a b ih => exact .cons (RowAt.same a s) ih
/-- a schedule stands at v -/
def SchedAt (H : Hp) (v : V) : Option (List Rw) → Prop
  | none => ∃ p xs, v = .ref p ∧ H p = some (.lst xs)
  | some rs => ∃ p xs, v = .ref p ∧ H p = some (.tup xs) ∧ RowsAt H xs rs ∧ rs.length ≤ 200
theorem SchedAt.same {H H' : Hp} {v : V} {s : Option (List Rw)} (h : SchedAt H v s) (k : Same H H') : SchedAt H' v s := by
  cases s with
  | none => obtain ⟨p, xs, e, hp⟩ := h; exact ⟨p, xs, e, k _ _ hp⟩
  | some rs => obtain ⟨p, xs, e, hp, hr, hl⟩ := h; exact ⟨p, xs, e, k _ _ hp, hr.same k, hl⟩
theorem sched_ty {H : Hp} {v : V} {s : Option (List Rw)} (h : SchedAt H v s) : TyOk H v := by
  cases s with
  | none => obtain ⟨p, xs, e, hp⟩ := h; exact .inr (.inr ⟨p, xs, e, hp⟩)
  | some rs => obtain ⟨p, xs, e, hp, _⟩ := h; exact .inr (.inl ⟨p, xs, e, hp⟩)
/-- the verdict of judge: the cost, or a schedule error -/
def Verdict (CS : Addr) (H : Hp) (Q : VK) (E : XK) : Out → Prop
  | .val c => ∀ H', Same H H' → Q (.int c) H'
  | .sch k z => ∀ d H', H d = none → Same H H' → H' d = some (.xd [("reason", .str z), ("number", .int k)]) → E (.ref CS) (some d) H'
def spJudge (CA CS : Addr) : Sp := fun vs H Q E => ∃ sv bv lv sc, vs = [sv, bv, lv] ∧ SchedAt H sv sc ∧ TyOk H bv ∧ TyOk H lv ∧ (okNum 40 bv = false → ArgE CA "beats" H E) ∧ (okNum 40 bv = true → okNum 8 lv = false → ArgE CA "slots" H E) ∧
  ∀ beats slots, bv = .int beats → lv = .int slots → 0 ≤ beats → beats ≤ 40 → 0 ≤ slots → slots ≤ 8 → Verdict CS H Q E (judgeF beats slots sc)
theorem ne_of_none' {H : Hp} {a b : Addr} {o : HO} (h1 : H a = none) (h2 : H b = some o) : a ≠ b := fun z => by
  rw [z, h2] at h1
  cases h1
theorem none_upd {H : Hp} {a b : Addr} {o : HO} (h : upd H a o b = none) : H b = none := by
  by_cases c : b = a
  · rw [c, upd_same] at h
    cases h
  · rw [upd_ne c] at h
    exact h
theorem none_of_same {H H' : Hp} {a : Addr} (s : Same H H') (h : H' a = none) : H a = none := by
  cases e : H a with
  | none => rfl
  | some o => rw [s _ _ e] at h; cases h
theorem n_rf : ¬ (("reason" : Str) = "front") := by decide +kernel
theorem n_rs : ¬ (("reason" : Str) = "slots") := by decide +kernel
theorem n_rp : ¬ (("reason" : Str) = "position") := by decide +kernel
theorem n_ru : ¬ (("reason" : Str) = "full") := by decide +kernel
theorem n_rc : ¬ (("reason" : Str) = "cost") := by decide +kernel
theorem n_ef : ¬ (("perform" : Str) = "front") := by decide +kernel
theorem n_es : ¬ (("perform" : Str) = "slots") := by decide +kernel
theorem n_ep : ¬ (("perform" : Str) = "position") := by decide +kernel
theorem n_eu : ¬ (("perform" : Str) = "full") := by decide +kernel
theorem n_ec : ¬ (("perform" : Str) = "cost") := by decide +kernel
section
variable {P : Program} {w : World} {K : PySem.W.Frag} {mg : Str → Option Value} {base : Heap}
abbrev nJudge : List Str := ["schedule", "beats", "slots", "judging", "number", "action", "reason"]
theorem scJu : FnScope nJudge ["schedule", "beats", "slots"] (defScope sJudge) := ⟨rfl, rfl, rfl, by decide +kernel, rfl, by decide +kernel, by decide +kernel⟩
theorem ok_judge {f fD fI CA fE cc cda CS fE2 cc2 cda2 CJ fJ fR fP fA : Addr} {fd fdD fdI fdJ fdR fdP fdA : FuncData} {tb tk : Tok} (F : Fun K "judge" "judge" sJudge f fd) (B : Blt mg)
    (FD : Fun K "demand_counts" "demand_counts" sDemand fD fdD) (gD : mg "demand_counts" = some (.ref fD)) (bD : Binds K fdD ["beats", "slots"] [])
    (FI : Fun K "is_integer" "is_integer" sIsInt fI fdI) (gI : mg "is_integer" = some (.ref fI)) (bI : Binds K fdI ["value"] [])
    (FA : Fun K "is_action" "is_action" sIsAct fA fdA) (gA : mg "is_action" = some (.ref fA)) (bA : Binds K fdA ["action"] [])
    (TA : ErrTxt P K mg "ArgumentError" "ArgumentError.__init__" sInitA CA fE cc cda) (TS : ErrTxt P K mg "ScheduleError" "ScheduleError.__init__" sInitS CS fE2 cc2 cda2) (gB : mg "MAX_BEATS" = some (.int 40 tb)) (gK : mg "MAX_KEPT" = some (.int 8 tk))
    (TJ : JTxt K CJ) (gJ : mg "Judging" = some (.ref CJ)) (MJ : Mk K CJ fJ) (FJ : Fun K "__init__" "Judging.__init__" sJInit fJ fdJ) (bJ : Binds K fdJ ["self", "beats", "slots"] [])
    (MR : Meth K CJ "reason" fR) (FR : Fun K "reason" "Judging.reason" sJReason fR fdR) (bR : Binds K fdR ["self", "action"] [])
    (MP : Meth K CJ "perform" fP) (FP : Fun K "perform" "Judging.perform" sJPerform fP fdP) (bP : Binds K fdP ["self", "action"] []) :
    FnOk P w K mg base (L2.CX P w) 4 f fd ["schedule", "beats", "slots"] (spJudge CA CS) := by
  have GD : FnOk P w K mg base (L2.CX P w) 2 fD fdD ["beats", "slots"] (spDemand CA) := ok_demand FD B FI gI bI TA gB gK
  have GJ : FnOk P w K mg base CX0 1 fJ fdJ ["self", "beats", "slots"] (spJInit CJ) := ok_jinit FJ TJ
  have GR : FnOk P w K mg base CX0 3 fR fdR ["self", "action"] (spJReason CJ) := ok_jreason FR TJ B FA gA bA FI gI bI
  have GP : FnOk P w K mg base CX0 1 fP fdP ["self", "action"] (spJPerform CJ) := ok_jperform FP TJ
  refine F.okX scJu (fun vs H Q E h => ?_) (fun cdv A outer s H vs Q E hr h => ?_)
  · obtain ⟨sv, bv, lv, sc, rfl, _⟩ := h
    rfl
  · obtain ⟨sv, bv, lv, sc, rfl, hS, t1, t2, k1, k2, k3⟩ := h
    have tkE := takes_of (X := cxOf (L2.CX P w) P w K mg base nJudge "judge" (defScope sJudge) f cdv A outer s H E) (E := E) rfl rfl rfl rfl
    refine ⟨_, pss_cons (ps_expr (pe_call GD (hr.mono (by decide)) (by rfl) gD FD.kp bD .nil (passes_call tkE fun _ _ _ _ h => h) (pa_cons (pv 1) (pa_cons (pv 2) pa_nil))))
      (pss_cons (ps_if (pt_not (pt_val (pe_callB call_isi (by rfl) B.isi btIsi (pa_cons (pv 0) (pa_cons (pe_bltn (v := .ty "tuple") (by rfl) B.tuple btTuple rfl) pa_nil)))))
        (pss_one (ps_raiseS rfl TS hr tkE (pa_cons (pe_un un_neg pe_int) (pa_cons pe_str pa_nil)))) pss_nil)
      (pss_cons (ps_set (i := 3) scJu.nd rfl (Or.inl rfl) (pe_make MJ GJ (hr.mono (by decide)) (by rfl) gJ bJ .nil pass0 (pa_cons (pv 1) (pa_cons (pv 2) pa_nil))))
      (pss_cons (ps_for (passes_of rfl) rfl (pi_enT (by rfl) B.enum (pa_cons (pv 0) pa_nil)) (pg_tup rfl (pgs_cons (pg_name (i := 4) scJu.nd rfl (Or.inl rfl)) (pgs_cons (pg_name (i := 5) scJu.nd rfl (Or.inl rfl)) pgs_nil)))
        (pss_cons (ps_set (i := 6) scJu.nd rfl (Or.inl rfl) (pe_meth (pv 3) TJ.cl MR GR (hr.mono (by decide)) bR .nil pass0 (pa_cons (pv 5) pa_nil)))
        (pss_cons (ps_if (pt_cmpR op_notN (pv 6) pe_non (nomark _)) (pss_one (ps_raiseS rfl TS hr tkE (pa_cons (pv 4) (pa_cons (pv 6) pa_nil)))) pss_nil)
        (pss_one (ps_expr (pe_meth (pv 3) TJ.cl MP GP (hr.mono (by decide)) bP .nil pass0 (pa_cons (pv 5) pa_nil)))))))
      (pss_cons (ps_if (pt_cmpR op_ne (pe_fld (pv 3) rfl) pe_int (nomark _)) (pss_one (ps_raiseS rfl TS hr tkE (pa_cons (pe_callB call_len_seq (by rfl) B.len btLen (pa_cons (pv 0) pa_nil)) (pa_cons pe_str pa_nil)))) pss_nil)
      (pss_one (ps_ret (pe_fld (pv 3) rfl))))))), ?_⟩
    refine ⟨_, rfl, _, rfl, bv, lv, rfl, t1, t2, k1, k2, fun ob ol => ?_⟩
    obtain ⟨beats, rfl, b0, b1⟩ := okNum_int ob
    obtain ⟨slots, rfl, l0, l1⟩ := okNum_int ol
    have k4 := k3 beats slots rfl rfl b0 b1 l0 l1
    obtain ⟨n, hty, _, _, _, e1, e2, e3⟩ := ty_of (K := K) (sched_ty hS)
    cases sc with
    | none =>
      obtain ⟨p, xs, rfl, hp⟩ := hS
      refine ⟨_, rfl, _, _, _, _, _, rfl, .ty "tuple", hty, kit_ty (e3 ⟨p, xs, rfl, hp⟩), _, rfl, iteT ?_⟩
      exact ⟨_, rfl, _, ⟨_, _, rfl, rfl⟩, fun d hd => k4 d _ hd (upd_sm hd) upd_same⟩
    | some rs =>
      obtain ⟨p, xs, rfl, hp, hR, hl⟩ := hS
      refine ⟨_, rfl, _, _, _, _, _, rfl, .ty "tuple", hty, kit_ty (e2 ⟨p, xs, rfl, hp⟩), _, rfl, iteF ?_⟩
      have hlen : xs.length = rs.length := Paired.length hR
      refine ⟨_, rfl, _, rfl, fun x dx hx hdx hne => ⟨x, dx, beats, slots, rfl, upd_same, fun d H1 hd J hk => ⟨rfl, ?_⟩⟩⟩
      have ndx : d ≠ x := ne_of_none' hd upd_same
      have hd0 : H d = none := none_upd (none_upd hd)
      have s1 : Same H H1 := fun b o e => hk b o (by rw [upd_ne (ne_of_none e hx), upd_ne (ne_of_none e hdx)]; exact e) (ne_of_none e hx)
      refine ⟨_, rfl, p, xs, rfl, SqT.of (s1 _ _ hp), for_it walk_enT (fun i σ H' => ∃ (js : JS) (v4 v5 v6 : Option V), σ = [some (.ref p), some (.int beats), some (.int slots), some (.ref x), v4, v5, v6] ∧
        judgeL slots (rs.drop i) i js = judgeF beats slots (some rs) ∧ WFj js i ∧ JAt CJ H' x d slots js ∧ Same H H') ⟨_, none, none, none, rfl, rfl, ⟨b0, b1, (by show (-1 : Int) ≤ 0; decide), Nat.le_refl _, wfd_nil⟩, J, s1⟩
        (fun i σ H' _ ⟨_, _, _, _, _, _, _, _, s⟩ => SqT.of (s _ _ hp)) ?_ ?_⟩
      · rintro i y σ H2 H3 hi ⟨js, v4, v5, v6, rfl, hj, W, J2, s2⟩ ⟨T, a, b, rfl, hT, rfl, ea, eb⟩
        cases ea
        obtain ⟨r, hr1, hr2⟩ := hR.at_ eb
        have s3 : Same H (upd H2 T (.tup [.int (i : Nat), b])) := s2.trans (upd_sm hT)
        have J3 := J2.same (upd_sm (o := .tup [.int (i : Nat), b]) hT)
        obtain ⟨⟨dy, h3⟩, _⟩ := id J3
        refine ⟨T, _, rfl, SqT.of upd_same, rfl, _, _, rfl, _, _, rfl, rfl, ?_⟩
        refine ⟨_, rfl, x, dy, _, rfl, h3, jf_no n_rf n_rs n_rp n_ru n_rc, _, rfl, x, d, slots, js, b, r, rfl, J3, hr2.same s3, fun H4 s4 => ⟨_, rfl, rfl, _, rfl, ?_⟩⟩
        have J4 := J3.same s4
        obtain ⟨⟨dz, h4⟩, _⟩ := id J4
        cases hq : reasonF slots js.place js.front js.full r with
        | some z =>
          rw [← hj, judge_stop hr1 hq] at k4
          exact iteT ⟨_, rfl, _, rfl, _, ⟨_, _, rfl, rfl⟩, fun e he => k4 e _ (none_of_same (s3.trans s4) he) ((s3.trans s4).trans (upd_sm he)) upd_same⟩
        | none =>
          obtain ⟨a, ha, _, _⟩ := reason_none hq
          refine iteF ⟨_, rfl, x, dz, _, rfl, h4, jf_no n_ef n_es n_ep n_eu n_ec, _, rfl, x, d, slots, js, b, r, a, i, rfl, J4, hr2.same (s3.trans s4), W, by omega, hq, ha, fun H5 J5 k5 => ?_⟩
          refine ⟨_, _, _, _, rfl, ?_, wf_step W hq ha, J5, fun c o e => k5 c o (ne_of_none e hx) (ne_of_none e hd0) ((s3.trans s4) _ _ e)⟩
          rw [← judge_go hr1 hq ha]
          exact hj
      · rintro σ H2 ⟨js, v4, v5, v6, rfl, hj, W, J2, s2⟩
        obtain ⟨⟨dz, h2⟩, _⟩ := id J2
        rw [hlen, judge_end] at hj
        rw [← hj] at k4
        refine ⟨_, rfl, x, CJ, dz, _, _, rfl, h2, TJ.cl, TJ.nF, jf_front, rfl, _, rfl, iteND (fun c => ?_) (fun c => ?_)⟩
        · rw [if_neg (fun z => c (congrArg V.int z))] at k4
          refine ⟨_, rfl, p, xs, rfl, .inr (SqT.of (s2 _ _ hp)), _, ⟨_, _, rfl, rfl⟩, fun e he => ?_⟩
          rw [hlen]
          exact k4 e _ (none_of_same s2 he) (s2.trans (upd_sm he)) upd_same
        · rw [if_pos (V.int.inj c)] at k4
          exact ⟨_, rfl, x, CJ, dz, _, _, rfl, h2, TJ.cl, TJ.nC, jf_cost, k4 _ s2⟩
end
end L2.Kt

/-! # _law_judge -/
namespace L2.Kt
open PySem PySem.Spec PyProof.Rows PySem.KtX
/-- the due answer: the cost, or a new pair -/
def Due (H : Hp) (Q : VK) : Out → Prop
  | .val c => ∀ H', Same H H' → Q (.int c) H'
  | .sch k z => ∀ p H', H p = none → Same H H' → H' p = some (.tup [.int k, .str z]) → Q (.ref p) H'
def spLJudge : Sp := fun vs H Q _ => ∃ (sv : V) (beats slots : Int) (sc : Option (List Rw)), vs = [sv, .int beats, .int slots] ∧ SchedAt H sv sc ∧ 0 ≤ beats ∧ beats ≤ 40 ∧ Due H Q (judgeF beats slots sc)
abbrev pLJ : List Str := ["_law_schedule", "_law_beats", "_law_slots"]
abbrev nLJ : List Str := ["_law_schedule", "_law_beats", "_law_slots", "_law_place", "_law_front", "_law_full", "_law_cost", "_law_k", "_law_action_here", "_law_reason_here"]
section
variable {P : Program} {w : World} {K : PySem.W.Frag} {mg : Str → Option Value} {base : Heap}
theorem scLJ : FnScope nLJ pLJ (defScope sLJudge) := ⟨rfl, rfl, rfl, by decide +kernel, rfl, by decide +kernel, by decide +kernel⟩
theorem ok_ljudge {f fR fA fI : Addr} {fd fdR fdA fdI : FuncData} (F : Fun K "_law_judge" "_law_judge" sLJudge f fd) (B : Blt mg) (FR : Fun K "_law_reason" "_law_reason" sLReason fR fdR) (gR : mg "_law_reason" = some (.ref fR)) (bR : Binds K fdR psLR [])
    (FA : Fun K "_law_action" "_law_action" sLAct fA fdA) (gA : mg "_law_action" = some (.ref fA)) (bA : Binds K fdA ["_law_action_here"] [])
    (FI : Fun K "_law_integer" "_law_integer" sLInt fI fdI) (gI : mg "_law_integer" = some (.ref fI)) (bI : Binds K fdI ["_law_value", "_law_low"] []) : FnOk P w K mg base CX0 4 f fd pLJ spLJudge := by
  have GR : FnOk P w K mg base CX0 3 fR fdR psLR spLReason := ok_lreason FR B FA gA bA FI gI bI
  refine F.ok scLJ (fun vs H Q E h => ?_) (fun cdv A outer s H vs Q E hr h => ?_)
  · obtain ⟨sv, beats, slots, sc, rfl, _⟩ := h
    rfl
  · obtain ⟨sv, beats, slots, sc, rfl, hS, b0, b1, k⟩ := h
    have hu := hu_of hr
    refine ⟨_, pss_cons (ps_if (pt_not (pt_val (pe_callB call_isi (by rfl) B.isi btIsi (pa_cons (pv 0) (pa_cons (pe_bltn (v := .ty "tuple") (by rfl) B.tuple btTuple rfl) pa_nil)))))
        (pss_one (ps_ret (pe_tup (pa_cons (pe_un un_neg pe_int) (pa_cons pe_str pa_nil))))) pss_nil)
      (pss_cons (ps_set (i := 3) scLJ.nd rfl (Or.inl rfl) pe_int)
      (pss_cons (ps_set (i := 4) scLJ.nd rfl (Or.inl rfl) (pv 1))
      (pss_cons (ps_set (i := 5) scLJ.nd rfl (Or.inl rfl) pe_dnewK)
      (pss_cons (ps_set (i := 6) scLJ.nd rfl (Or.inl rfl) pe_int)
      (pss_cons (ps_for PassesOwn.never rfl (pi_range1 (by rfl) B.range (pa_cons (pe_callB call_len_seq (by rfl) B.len btLen (pa_cons (pv 0) pa_nil)) pa_nil)) (pg_name (i := 7) scLJ.nd rfl (Or.inl rfl))
        (pss_cons (ps_set (i := 8) scLJ.nd rfl (Or.inl rfl) (pe_ix ix_tup (pv 0) (pv 7) (fun _ _ => rfl)))
        (pss_cons (ps_set (i := 9) scLJ.nd rfl (Or.inl rfl) (pe_call GR hr (by rfl) gR FR.kp bR .nil pass0 (pa_cons (pv 8) (pa_cons (pv 3) (pa_cons (pv 4) (pa_cons (pv 5) (pa_cons (pv 2) pa_nil)))))))
        (pss_cons (ps_if (pt_cmpR op_notN (pv 9) pe_non (nomark _)) (pss_one (ps_ret (pe_tup (pa_cons (pv 7) (pa_cons (pv 9) pa_nil))))) pss_nil)
        (pss_one (ps_if (pt_cmpR op_eq (pe_ix ix_tup (pv 8) pe_int (fun _ _ => rfl)) pe_str (nomark _)) (pss_one (ps_dput hu (pv 5) (pe_ix ix_tup (pv 8) pe_int (fun _ _ => rfl)) (pv 3) rfl))
          (pss_one (ps_if (pt_cmpR op_eq (pe_ix ix_tup (pv 8) pe_int (fun _ _ => rfl)) pe_str (nomark _)) (pss_one (ps_set (i := 3) scLJ.nd rfl (Or.inl rfl) (pe_dget hu (pv 5) (pe_ix ix_tup (pv 8) pe_int (fun _ _ => rfl)) (fun _ _ => rfl))))
            (pss_one (ps_if (pt_cmpR op_eq (pe_ix ix_tup (pv 8) pe_int (fun _ _ => rfl)) pe_str (nomark _)) (pss_cons (ps_set (i := 3) scLJ.nd rfl (Or.inl rfl) (pe_op op_add (pv 3) (pe_ix ix_tup (pv 8) pe_int (fun _ _ => rfl)))) (pss_one (ps_set (i := 6) scLJ.nd rfl (Or.inl rfl) (pe_op op_add (pv 6) (pe_ix ix_tup (pv 8) pe_int (fun _ _ => rfl))))))
              (pss_cons (ps_set (i := 4) scLJ.nd rfl (Or.inl rfl) (pe_op op_sub (pv 4) pe_int)) (pss_one (ps_set (i := 3) scLJ.nd rfl (Or.inl rfl) (pe_un un_neg pe_int))))))))))))))
      (pss_cons (ps_if (pt_cmpR op_gt (pv 4) pe_int (nomark _)) (pss_one (ps_ret (pe_tup (pa_cons (pe_callB call_len_seq (by rfl) B.len btLen (pa_cons (pv 0) pa_nil)) (pa_cons pe_str pa_nil))))) pss_nil)
      (pss_one (ps_ret (pv 6))))))))), ?_⟩
    obtain ⟨n, hty, _, _, _, e1, e2, e3⟩ := ty_of (K := K) (sched_ty hS)
    cases sc with
    | none =>
      obtain ⟨p, xs, rfl, hp⟩ := hS
      exact ⟨_, rfl, _, _, _, _, _, rfl, .ty "tuple", hty, kit_ty (e3 ⟨p, xs, rfl, hp⟩), _, rfl, iteT ⟨_, rfl, (by show 2 ≤ sizeLine; decide), fun q hq => k q _ hq (upd_sm hq) upd_same⟩⟩
    | some rs =>
      obtain ⟨p, xs, rfl, hp, hR, hl⟩ := hS
      have hlen : xs.length = rs.length := Paired.length hR
      refine ⟨_, rfl, _, _, _, _, _, rfl, .ty "tuple", hty, kit_ty (e2 ⟨p, xs, rfl, hp⟩), _, rfl, iteF ?_⟩
      refine ⟨_, rfl, fun d hd => ⟨_, rfl, p, xs, rfl, .inr (SqT.of (upd_sm hd _ _ hp)), (xs.length : Int), rfl, by omega, by omega, ?_⟩⟩
      rw [show ((xs.length : Int)).toNat = rs.length by omega]
      refine for_range (fun i σ H' => ∃ (js : JS) (v7 v8 v9 : Option V), σ = [some (.ref p), some (.int beats), some (.int slots), some (.int js.place), some (.int js.front), some (.ref d), some (.int js.cost), v7, v8, v9] ∧
        judgeL slots (rs.drop i) i js = judgeF beats slots (some rs) ∧ WFj js i ∧ H' d = some (.dK js.full) ∧ Same H H') ⟨⟨0, beats, 0, []⟩, none, none, none, rfl, rfl, ⟨b0, b1, (by show (-1 : Int) ≤ 0; decide), Nat.le_refl _, wfd_nil⟩, upd_same, upd_sm hd⟩ ?_ ?_
      · rintro i σ H1 hi ⟨js, v7, v8, v9, rfl, hj, W, hd1, s1⟩
        obtain ⟨b, eb⟩ : ∃ b, xs[i]? = some b := ⟨xs[i]'(by omega), List.getElem?_eq_getElem (by omega)⟩
        obtain ⟨r, hr1, hr2⟩ := hR.at_ eb
        refine ⟨_, rfl, _, rfl, p, _, _, _, rfl, ?_, SqT.of (s1 _ _ hp), (atI_nat (j := i) eb), ?_⟩
        · show V.int (0 + (i : Int)) = V.int i
          rw [Int.zero_add]
        refine ⟨_, rfl, _, rfl, _, rfl, _, rfl, _, rfl, b, r, js.place, js.front, d, js.full, slots, rfl, hr2.same s1, hd1, fun H2 s2 => ⟨_, rfl, rfl, _, rfl, ?_⟩⟩
        have s3 := s1.trans s2
        have hd2 := s2 _ _ hd1
        cases hq : reasonF slots js.place js.front js.full r with
        | some z =>
          rw [← hj, judge_stop hr1 hq] at k
          refine iteT ⟨_, rfl, _, rfl, (by show 2 ≤ sizeLine; decide), fun q hq2 => k q _ (none_of_same s3 hq2) (s3.trans (upd_sm hq2)) ?_⟩
          rw [upd_same]
          show some (HO.tup [V.int (0 + (i : Int)), V.str z]) = some (HO.tup [V.int i, V.str z])
          rw [Int.zero_add]
        | none =>
          refine iteF ?_
          obtain ⟨a, ha, nf, hA⟩ := reason_none hq
          have hW := wf_step W hq ha
          have hg := judge_go hr1 hq ha
          rw [hj] at hg
          obtain ⟨t, ys, rfl, ht0, hx⟩ := act_shape hr2 ha
          have ht := s3 _ _ ht0
          have sd : ∀ {o : HO}, Same H (upd H2 d o) := fun {o} b' o' e => by rw [upd_ne (ne_of_none e hd)]; exact s3 _ _ e
          rcases hx with ⟨rfl, rfl⟩ | ⟨n, rfl, hn1, rfl⟩ | ⟨n, rfl, hn1, rfl⟩ | ⟨n, rfl, hn1, rfl⟩
          · -- turn
            refine ⟨_, rfl, t, _, _, _, rfl, rfl, SqT.of ht, atI_nat (j := 0) rfl, rfl, _, rfl, iteD (fun z => absurd z (v_str s_tk)) (fun _ => ?_)⟩
            refine ⟨_, rfl, t, _, _, _, rfl, rfl, SqT.of ht, atI_nat (j := 0) rfl, rfl, _, rfl, iteD (fun z => absurd z (v_str s_tr)) (fun _ => ?_)⟩
            refine ⟨_, rfl, t, _, _, _, rfl, rfl, SqT.of ht, atI_nat (j := 0) rfl, rfl, _, rfl, iteD (fun z => absurd z (v_str s_ta)) (fun _ => ?_)⟩
            exact ⟨_, rfl, _, _, rfl, rfl, _, rfl, _, _, _, _, rfl, hg.symm, hW, hd2, s3⟩
          · -- advance
            refine ⟨_, rfl, t, _, _, _, rfl, rfl, SqT.of ht, atI_nat (j := 0) rfl, rfl, _, rfl, iteD (fun z => absurd z (v_str s_ak)) (fun _ => ?_)⟩
            refine ⟨_, rfl, t, _, _, _, rfl, rfl, SqT.of ht, atI_nat (j := 0) rfl, rfl, _, rfl, iteD (fun z => absurd z (v_str s_ar)) (fun _ => ?_)⟩
            refine ⟨_, rfl, t, _, _, _, rfl, rfl, SqT.of ht, atI_nat (j := 0) rfl, rfl, _, rfl, iteD (fun _ => ?_) (fun z => absurd rfl z)⟩
            refine ⟨_, rfl, _, rfl, t, _, _, _, rfl, rfl, SqT.of ht, atI_nat (j := 1) rfl, _, _, rfl, rfl, ?_⟩
            exact ⟨_, rfl, _, rfl, t, _, _, _, rfl, rfl, SqT.of ht, atI_nat (j := 1) rfl, _, _, rfl, rfl, _, _, _, _, rfl, hg.symm, hW, hd2, s3⟩
          · -- keep
            refine ⟨_, rfl, t, _, _, _, rfl, rfl, SqT.of ht, atI_nat (j := 0) rfl, rfl, _, rfl, iteD (fun _ => ?_) (fun z => absurd rfl z)⟩
            exact ⟨_, rfl, _, rfl, _, rfl, t, _, _, _, rfl, rfl, SqT.of ht, atI_nat (j := 1) rfl, d, _, rfl, DPut.k (k := Sum.inl n) hd2 (small1000 (by have := W.len; omega)), stepA js (.keep n), _, _, _, rfl, hg.symm, hW, upd_same, sd⟩
          · -- restore
            obtain ⟨u, hv⟩ := Option.isSome_iff_exists.mp (rest_at hA)
            obtain ⟨z, hz, rfl⟩ := wfd_val W.wf hv
            refine ⟨_, rfl, t, _, _, _, rfl, rfl, SqT.of ht, atI_nat (j := 0) rfl, rfl, _, rfl, iteD (fun z => absurd z (v_str s_rk)) (fun _ => ?_)⟩
            refine ⟨_, rfl, t, _, _, _, rfl, rfl, SqT.of ht, atI_nat (j := 0) rfl, rfl, _, rfl, iteD (fun _ => ?_) (fun z => absurd rfl z)⟩
            refine ⟨_, rfl, _, rfl, t, _, _, _, rfl, rfl, SqT.of ht, atI_nat (j := 1) rfl, d, V.int z, rfl, hv ▸ DGet.k (k := Sum.inl n) hd2, stepA js (.rest n), some (.int (0 + (i : Int))), some (.ref t), some .non, ?_, hg.symm, hW, hd2, s3⟩
            have e : (stepA js (.rest n)).place = z := by
              show intOf (valV js.full (.inl n)) = z
              rw [hv]
              rfl
            rw [e]
            rfl
      · rintro σ H1 ⟨js, v7, v8, v9, rfl, hj, W, hd1, s1⟩
        rw [judge_end] at hj
        rw [← hj] at k
        have f0 := W.f0
        refine ⟨_, rfl, _, _, rfl, rfl, _, rfl, iteD (fun c => ?_) (fun c => ?_)⟩
        · rw [if_neg (by omega)] at k
          refine ⟨_, rfl, p, xs, rfl, .inr (SqT.of (s1 _ _ hp)), (by show 2 ≤ sizeLine; decide), fun q hq => k q _ (none_of_same s1 hq) (s1.trans (upd_sm hq)) ?_⟩
          rw [upd_same, hlen]
        · rw [if_pos (by omega)] at k
          exact ⟨_, rfl, k _ s1⟩
end
end L2.Kt

/-! # _law_next -/
namespace L2.Kt
open PySem PySem.Spec PyProof.Rows PySem.KtX
theorem StAt.same {H H' : Hp} {p u : Addr} (h : StAt H p u) (s : Same H H') : StAt H' p u := by
  obtain ⟨ns, a, b, c, h1, h2, r⟩ := h
  exact ⟨ns, a, b, c, s _ _ h1, s _ _ h2, r⟩
theorem StAt.up {H : Hp} {p u q : Addr} {o : HO} (h : StAt H p u) (hq : H q = none) : StAt (upd H q o) p u := h.same (upd_sm hq)
theorem StAt.nt {H : Hp} {p u b : Addr} {o : HO} (h : StAt H p u) (e : H b = some o) (ho : ∀ xs, o ≠ .lst xs) : b ≠ p := by
  obtain ⟨_, _, _, _, h1, _⟩ := h
  exact ne_of e h1 (ho _)
/-- tuples stay -/
def KT (H H' : Hp) : Prop := ∀ b xs, H b = some (.tup xs) → H' b = some (.tup xs)
theorem KT.refl (H : Hp) : KT H H := fun _ _ e => e
theorem KT.trans {H H1 H2 : Hp} (a : KT H H1) (b : KT H1 H2) : KT H H2 := fun c xs e => b c xs (a c xs e)
theorem KT.of {H H' : Hp} (s : Same H H') : KT H H' := fun b xs e => s _ _ e
theorem KT.up {H : Hp} {q : Addr} {o : HO} (h : H q = none) : KT H (upd H q o) := KT.of (upd_sm h)
theorem KT.but {H H' : Hp} {p u : Addr} (S : StAt H p u) (b : But p H H') : KT H H' := fun c xs e => b _ _ (S.nt e fun _ z => nomatch z) e
theorem KT.lst {H : Hp} {l : Addr} {xs ys : List V} (h : H l = some (.lst xs)) : KT H (upd H l (.lst ys)) := fun b zs e => by
  rw [upd_ne (ne_of e h (fun z => nomatch z))]
  exact e
theorem KT.dct {H : Hp} {l : Addr} {f g : Full} (h : H l = some (.dK f)) : KT H (upd H l (.dK g)) := fun b zs e => by
  rw [upd_ne (ne_of e h (fun z => nomatch z))]
  exact e
theorem RowAt.kt {H H' : Hp} {v : V} {xs : List V} (h : RowAt H v (.tup xs)) (k : KT H H') : RowAt H' v (.tup xs) := by
  obtain ⟨p, e, hp, z⟩ := h
  exact ⟨p, e, k _ _ hp, z⟩
theorem But.up {p q : Addr} {H H1 : Hp} {o : HO} (a : But p H H1) (h : H1 q = none) : But p H (upd H1 q o) := a.same (upd_sm h)
def spNext : Sp := fun vs H Q _ => ∃ (p u d : Addr) (place front slots : Int) (full : Full), vs = [.ref p, .int place, .int front, .ref d, .int slots] ∧ StAt H p u ∧ H d = some (.dK full) ∧ WFd full ∧ full.length < 500 ∧ 0 ≤ front ∧ front ≤ 40 ∧ -1 ≤ place ∧ slots < 1000 ∧
  ∀ q ys H', RowAt H' (.ref q) (.tup ys) → StAt H' p u → But p H H' → Q (.ref q) H'
abbrev pNx : List Str := ["_law_state", "_law_place", "_law_front", "_law_full", "_law_slots"]
abbrev nNx : List Str := ["_law_state", "_law_place", "_law_front", "_law_full", "_law_slots", "_law_choice"]
section
variable {P : Program} {w : World} {K : PySem.W.Frag} {mg : Str → Option Value} {base : Heap}
theorem scNx : FnScope nNx pNx (defScope sNext) := ⟨rfl, rfl, rfl, by decide +kernel, rfl, by decide +kernel, by decide +kernel⟩
theorem ok_next {f fD : Addr} {fd fdD : FuncData} (F : Fun K "_law_next" "_law_next" sNext f fd) (B : Blt mg) (FD : Fun K "_law_draw" "_law_draw" sDraw fD fdD) (gD : mg "_law_draw" = some (.ref fD)) (bD : Binds K fdD ["_law_state", "_law_many"] []) :
    FnOk P w K mg base CX0 2 f fd pNx spNext := by
  have GD : FnOk P w K mg base CX0 1 fD fdD ["_law_state", "_law_many"] spDraw := ok_draw FD B
  refine F.ok scNx (fun vs H Q E h => ?_) (fun cdv A outer s H vs Q E hr h => ?_)
  · obtain ⟨p, u, d, place, front, slots, full, rfl, _⟩ := h
    rfl
  · obtain ⟨p, u, d, place, front, slots, full, rfl, S, hd, W, hl, f0, f1, p0, l1, k⟩ := h
    refine ⟨_, pss_cons (ps_set (i := 5) scNx.nd rfl (Or.inl rfl) (pe_call GD hr (by rfl) gD FD.kp bD .nil pass0 (pa_cons (pv 0) (pa_cons pe_int pa_nil))))
      (pss_cons (ps_if (pt_cmpR op_eq (pv 5) pe_int (nomark _))
        (pss_one (ps_ret (pe_ix ix_list (pe_lst (pa_cons (pe_tup (pa_cons pe_str (pa_cons (pe_call GD hr (by rfl) gD FD.kp bD .nil pass0 (pa_cons (pv 0) (pa_cons pe_int pa_nil))) pa_nil)))
          (pa_cons (pe_tup (pa_cons pe_str (pa_cons (pe_call GD hr (by rfl) gD FD.kp bD .nil pass0 (pa_cons (pv 0) (pa_cons pe_int pa_nil))) pa_nil)))
          (pa_cons (pe_tup (pa_cons pe_str (pa_cons (pe_call GD hr (by rfl) gD FD.kp bD .nil pass0 (pa_cons (pv 0) (pa_cons pe_int pa_nil))) pa_nil)))
          (pa_cons (pe_tup (pa_cons pe_str pa_nil)) pa_nil)))))
          (pe_call GD hr (by rfl) gD FD.kp bD .nil pass0 (pa_cons (pv 0) (pa_cons pe_int pa_nil))) (fun _ _ => rfl)))) pss_nil)
      (pss_cons (ps_if (pt_cmpR op_lt (pv 1) pe_int (nomark _))
        (pss_cons (ps_if (pt_not (pt_truth (pv 3) (by intro _; rfl))) (pss_one (ps_ret (pe_tup (pa_cons pe_str pa_nil)))) pss_nil)
          (pss_one (ps_ret (pe_tup (pa_cons pe_str (pa_cons (pe_ix ix_list (pe_callTy (call_list_dK rfl) (by rfl) B.list btList (pa_cons (pv 3) pa_nil))
            (pe_call GD hr (by rfl) gD FD.kp bD .nil pass0 (pa_cons (pv 0) (pa_cons (pe_callB call_lenD (by rfl) B.len btLen (pa_cons (pv 3) pa_nil)) pa_nil))) (fun _ _ => rfl)) pa_nil)))))) pss_nil)
      (pss_cons (ps_if (PW.pt (pw_and (pt_cmpR op_eq (pv 1) (pe_op op_sub (pv 2) pe_int) (nomark _)) (pw_and1 (pt_cmpR op_lt (pv 5) pe_int (nomark _))))) (pss_one (ps_ret (pe_tup (pa_cons pe_str pa_nil)))) pss_nil)
      (pss_cons (ps_if (PW.pt (pw_and (pt_cmpR op_lt (pv 5) pe_int (nomark _)) (pw_and1 (pt_cmpR op_gt (pv 4) pe_int (nomark _)))))
        (pss_one (ps_ret (pe_tup (pa_cons pe_str (pa_cons (pe_call GD hr (by rfl) gD FD.kp bD .nil pass0 (pa_cons (pv 0) (pa_cons (pv 4) pa_nil))) pa_nil))))) pss_nil)
      (pss_one (ps_ret (pe_tup (pa_cons pe_str (pa_cons (pe_op op_add pe_int (pe_call GD hr (by rfl) gD FD.kp bD .nil pass0 (pa_cons (pv 0) (pa_cons (pe_callB (call_max2 rfl) (by rfl) B.max btMax
        (pa_cons pe_int (pa_cons (pe_op op_sub (pe_op op_sub (pv 2) pe_int) (pv 1)) pa_nil))) pa_nil)))) pa_nil))))))))), ?_⟩
    refine ⟨_, rfl, p, u, 12, rfl, S, by decide, by decide, fun n0 H0 _ _ S0 B0 => ?_⟩
    have hd0 : H0 d = some (.dK full) := B0 _ _ (S.nt hd fun _ z => nomatch z) hd
    refine ⟨_, rfl, rfl, _, rfl, iteD (fun _ => ?_) (fun _ => ?_)⟩
    · refine ⟨_, rfl, p, u, 5, rfl, S0, by decide, by decide, fun n1 H1 _ _ S1 B1 => ⟨(by show 2 ≤ sizeLine; decide), fun q1 hq1 => ?_⟩⟩
      have Sa := S1.up (o := .tup [.str "advance", .int n1]) hq1
      refine ⟨_, rfl, p, u, 9, rfl, Sa, by decide, by decide, fun n2 H2 _ _ S2 B2 => ⟨(by show 2 ≤ sizeLine; decide), fun q2 hq2 => ?_⟩⟩
      have Sb := S2.up (o := .tup [.str "keep", .int n2]) hq2
      refine ⟨_, rfl, p, u, 9, rfl, Sb, by decide, by decide, fun n3 H3 _ _ S3 B3 => ⟨(by show 2 ≤ sizeLine; decide), fun q3 hq3 => ?_⟩⟩
      have Sc := S3.up (o := .tup [.str "restore", .int n3]) hq3
      refine ⟨(by show 1 ≤ sizeLine; decide), fun q4 hq4 => ⟨(by show 4 ≤ sizeLine; decide), fun L hL => ?_⟩⟩
      have Sd := Sc.up (o := .tup [zTurn]) hq4
      have Se := Sd.up (o := .lst [.ref q1, .ref q2, .ref q3, .ref q4]) hL
      refine ⟨_, rfl, p, u, 4, rfl, Se, by decide, by decide, fun n5 H5 z0 z1 S5 B5 => ?_⟩
      have hLp : L ≠ p := by
        obtain ⟨_, _, _, _, h1, _⟩ := Sd
        exact Ne.symm (ne_of_none h1 hL)
      have hL5 := B5 _ _ hLp upd_same
      have t4 := (KT.up (o := .lst [.ref q1, .ref q2, .ref q3, .ref q4]) hL).trans (KT.but Se B5)
      have t3 := (KT.up (o := .tup [zTurn]) hq4).trans t4
      have t2 := (KT.but Sb B3).trans ((KT.up (o := .tup [.str "restore", .int n3]) hq3).trans t3)
      have t1 := (KT.but Sa B2).trans ((KT.up (o := .tup [.str "keep", .int n2]) hq2).trans t2)
      have BB : But p H H5 := ((((((((B0.trans B1).up hq1).trans B2).up hq2).trans B3).up hq3).up hq4).up hL).trans B5
      obtain rfl | rfl | rfl | rfl : n5 = 0 ∨ n5 = 1 ∨ n5 = 2 ∨ n5 = 3 := by omega
      · exact ⟨L, _, _, _, rfl, rfl, SqL.of hL5, atI_nat (j := 0) rfl, k q1 _ _ ⟨q1, rfl, t1 _ _ upd_same, rfl⟩ S5 BB⟩
      · exact ⟨L, _, _, _, rfl, rfl, SqL.of hL5, atI_nat (j := 1) rfl, k q2 _ _ ⟨q2, rfl, t2 _ _ upd_same, rfl⟩ S5 BB⟩
      · exact ⟨L, _, _, _, rfl, rfl, SqL.of hL5, atI_nat (j := 2) rfl, k q3 _ _ ⟨q3, rfl, t3 _ _ upd_same, rfl⟩ S5 BB⟩
      · exact ⟨L, _, _, _, rfl, rfl, SqL.of hL5, atI_nat (j := 3) rfl, k q4 _ _ ⟨q4, rfl, t4 _ _ upd_same, rfl⟩ S5 BB⟩
    have turn : ∀ q, H0 q = none → Q (.ref q) (upd H0 q (.tup [zTurn])) := fun q hq => k q _ _ ⟨q, rfl, upd_same, rfl⟩ (S0.up hq) (B0.up hq)
    refine ⟨_, rfl, _, _, rfl, rfl, _, rfl, iteD (fun c => ?_) (fun c => ?_)⟩
    · refine ⟨_, rfl, _, .inr (.inr ⟨full, hd0, rfl⟩), ?_⟩
      cases full with
      | nil => exact iteT ⟨(by show 1 ≤ sizeLine; decide), turn⟩
      | cons kv r =>
        refine iteF (⟨_, rfl, d, _, rfl, hd0, fun L hL => ?_⟩)
        have Sl := S0.up (o := .lst ((kv :: r).map fun kv => kV kv.1)) hL
        refine ⟨_, rfl, _, rfl, d, _, rfl, upd_sm hL _ _ hd0, p, u, _, rfl, Sl, (by show (0 : Int) < ((r.length + 1 : Nat) : Int); omega), (by simp only [List.length_cons] at hl ⊢; omega), fun n H2 z0 z1 S2 B2 => ?_⟩
        have hLp : L ≠ p := by
          obtain ⟨_, _, _, _, h1, _⟩ := S0
          exact Ne.symm (ne_of_none h1 hL)
        obtain ⟨j, rfl⟩ : ∃ j : Nat, n = (j : Int) := ⟨n.toNat, by omega⟩
        have hj : j < (kv :: r).length := by omega
        obtain ⟨⟨m, e1, _⟩, _⟩ := W _ (List.getElem_mem hj)
        refine ⟨L, _, _, _, rfl, rfl, SqL.of (B2 _ _ hLp upd_same), atI_nat (j := j) (by rw [List.getElem?_map, List.getElem?_eq_getElem hj]; rfl), (by show 2 ≤ sizeLine; decide), fun q hq => k q _ _ ⟨q, rfl, upd_same, ?_⟩ (S2.up hq) (((B0.up hL).trans B2).up hq)⟩
        show [V.str "restore", kV ((kv :: r)[j].fst)].all flatV = true
        rw [e1]
        rfl
    · have keepS : 0 < slots → ∃ (p' u' : Addr) (m : Int), [V.ref p, V.int slots] = [V.ref p', V.int m] ∧ StAt H0 p' u' ∧ 0 < m ∧ m < 1000 ∧ ∀ (n : Int) H', 0 ≤ n → n < m → StAt H' p' u' → But p' H0 H' → [V.str "keep", V.int n].length ≤ sizeLine ∧ ∀ q, H' q = none → Q (.ref q) (upd H' q (.tup [.str "keep", .int n])) :=
        fun h => ⟨p, u, slots, rfl, S0, h, l1, fun n H' _ _ S' B' => ⟨(by show 2 ≤ sizeLine; decide), fun q hq => k q _ _ ⟨q, rfl, upd_same, rfl⟩ (S'.up hq) ((B0.trans B').up hq)⟩⟩
      have adv : ∃ (i j : Int), [V.int 1, V.int (front - 1 - place)] = [V.int i, V.int j] ∧ ∃ (p' u' : Addr) (m : Int), [V.ref p, V.int (if j > i then j else i)] = [V.ref p', V.int m] ∧ StAt H0 p' u' ∧ 0 < m ∧ m < 1000 ∧ ∀ (n : Int) H', 0 ≤ n → n < m → StAt H' p' u' → But p' H0 H' →
          ∃ (a b : Int), V.int 1 = V.int a ∧ V.int n = V.int b ∧ [V.str "advance", V.int (a + b)].length ≤ sizeLine ∧ ∀ q, H' q = none → Q (.ref q) (upd H' q (.tup [.str "advance", .int (a + b)])) := by
        refine ⟨_, _, rfl, p, u, _, rfl, S0, ?_, ?_, fun n H' _ _ S' B' => ⟨_, _, rfl, rfl, (by show 2 ≤ sizeLine; decide), fun q hq => k q _ _ ⟨q, rfl, upd_same, rfl⟩ (S'.up hq) ((B0.trans B').up hq)⟩⟩ <;> split <;> omega
      refine ⟨_, rfl, _, rfl, _, _, rfl, rfl, rfl, _, rfl, iteD (fun _ => ?_) (fun _ => iteF ?_)⟩
      · refine ⟨_, rfl, _, _, rfl, rfl, _, rfl, iteD (fun _ => ⟨(by show 1 ≤ sizeLine; decide), turn⟩) (fun _ => ?_)⟩
        refine ⟨_, rfl, _, _, rfl, rfl, _, rfl, iteD (fun _ => ?_) (fun _ => iteF ?_)⟩
        · refine ⟨_, rfl, _, _, rfl, rfl, _, rfl, iteD (fun c => ⟨_, rfl, _, rfl, keepS c⟩) (fun _ => ?_)⟩
          exact ⟨_, rfl, _, rfl, _, _, rfl, rfl, _, rfl, _, _, rfl, rfl, adv⟩
        · exact ⟨_, rfl, _, rfl, _, _, rfl, rfl, _, rfl, _, _, rfl, rfl, adv⟩
      · refine ⟨_, rfl, _, _, rfl, rfl, _, rfl, iteD (fun _ => ?_) (fun _ => iteF ?_)⟩
        · refine ⟨_, rfl, _, _, rfl, rfl, _, rfl, iteD (fun c => ⟨_, rfl, _, rfl, keepS c⟩) (fun _ => ?_)⟩
          exact ⟨_, rfl, _, rfl, _, _, rfl, rfl, _, rfl, _, _, rfl, rfl, adv⟩
        · exact ⟨_, rfl, _, rfl, _, _, rfl, rfl, _, rfl, _, _, rfl, rfl, adv⟩
end
end L2.Kt

/-! # _law_made -/
namespace L2.Kt
open PySem PySem.Spec PyProof.Rows PySem.KtX
theorem share {T C : Hp → Prop} {G : Prop} (h : (∀ H2, C H2 → T H2) → G) (r : ∀ H2, C H2 → T H2) : G := h r
theorem But.updN {p q : Addr} {H H1 : Hp} {o : HO} (a : But p H H1) (h : H q = none) : But p H (upd H1 q o) := fun b u hb e => by
  rw [upd_ne (ne_of_none e h)]
  exact a b u hb e
theorem StAt.updN {H : Hp} {p u l : Addr} {o : HO} (h : StAt H p u) (h1 : p ≠ l) (h2 : u ≠ l) : StAt (upd H l o) p u := by
  obtain ⟨ns, a, b, c, e1, e2, r⟩ := h
  exact ⟨ns, a, b, c, by rw [upd_ne h1]; exact e1, by rw [upd_ne h2]; exact e2, r⟩
theorem StAt.neN {H : Hp} {p u l : Addr} (h : StAt H p u) (hl : H l = none) : p ≠ l ∧ u ≠ l := by
  obtain ⟨ns, a, b, c, e1, e2, _⟩ := h
  exact ⟨ne_of_none e1 hl, ne_of_none e2 hl⟩
/-- all rows are tuples -/
def TupsAt (H : Hp) (xs : List V) : Prop := ∀ v ∈ xs, ∃ ys, RowAt H v (.tup ys)
theorem TupsAt.kt {H H' : Hp} {xs : List V} (h : TupsAt H xs) (k : KT H H') : TupsAt H' xs := fun v hv => by
  obtain ⟨ys, r⟩ := h v hv
  exact ⟨ys, r.kt k⟩
theorem TupsAt.snoc {H : Hp} {xs ys : List V} {v : V} (h : TupsAt H xs) (r : RowAt H v (.tup ys)) : TupsAt H (xs ++ [v]) := fun x hx => by
  rcases List.mem_append.mp hx with q | q
  · exact h x q
  · rw [List.mem_singleton.mp q]
    exact ⟨ys, r⟩
def spMade : Sp := fun vs H Q _ => ∃ (p u : Addr) (beats slots : Int), vs = [.ref p, .int beats, .int slots] ∧ StAt H p u ∧ 0 ≤ beats ∧ beats ≤ 40 ∧ slots < 1000 ∧
  ∀ l xs H', H l = none → H' l = some (.lst xs) → TupsAt H' xs → xs.length ≤ 92 → StAt H' p u → But p H H' → Q (.ref l) H'
abbrev pMa : List Str := ["_law_state", "_law_beats", "_law_slots"]
abbrev nMa : List Str := ["_law_state", "_law_beats", "_law_slots", "_law_rows", "_law_place", "_law_front", "_law_full", "_law_k", "_law_action_here"]
section
variable {P : Program} {w : World} {K : PySem.W.Frag} {mg : Str → Option Value} {base : Heap}
theorem scMa : FnScope nMa pMa (defScope sMade) := ⟨rfl, rfl, rfl, by decide +kernel, rfl, by decide +kernel, by decide +kernel⟩
theorem ok_made {f fD fN fR fA fI : Addr} {fd fdD fdN fdR fdA fdI : FuncData} (F : Fun K "_law_made" "_law_made" sMade f fd) (B : Blt mg) (FD : Fun K "_law_draw" "_law_draw" sDraw fD fdD) (gD : mg "_law_draw" = some (.ref fD)) (bD : Binds K fdD ["_law_state", "_law_many"] [])
    (FN : Fun K "_law_next" "_law_next" sNext fN fdN) (gN : mg "_law_next" = some (.ref fN)) (bN : Binds K fdN pNx [])
    (FR : Fun K "_law_reason" "_law_reason" sLReason fR fdR) (gR : mg "_law_reason" = some (.ref fR)) (bR : Binds K fdR psLR [])
    (FA : Fun K "_law_action" "_law_action" sLAct fA fdA) (gA : mg "_law_action" = some (.ref fA)) (bA : Binds K fdA ["_law_action_here"] [])
    (FI : Fun K "_law_integer" "_law_integer" sLInt fI fdI) (gI : mg "_law_integer" = some (.ref fI)) (bI : Binds K fdI ["_law_value", "_law_low"] []) : FnOk P w K mg base CX0 4 f fd pMa spMade := by
  have GD : FnOk P w K mg base CX0 1 fD fdD ["_law_state", "_law_many"] spDraw := ok_draw FD B
  have GN : FnOk P w K mg base CX0 2 fN fdN pNx spNext := ok_next FN B FD gD bD
  have GR : FnOk P w K mg base CX0 3 fR fdR psLR spLReason := ok_lreason FR B FA gA bA FI gI bI
  refine F.ok scMa (fun vs H Q E h => ?_) (fun cdv A outer s H vs Q E hr h => ?_)
  · obtain ⟨p, u, beats, slots, rfl, _⟩ := h
    rfl
  · obtain ⟨p, u, beats, slots, rfl, S, b0, b1, l1, k⟩ := h
    have hu := hu_of hr
    have hr1 : Room 1 _ := hr.mono (by decide)
    have hr2 : Room 2 _ := hr.mono (by decide)
    refine ⟨_, pss_cons (ps_set (i := 3) scMa.nd rfl (Or.inl rfl) (pe_lst pa_nil))
      (pss_cons (ps_set (i := 4) scMa.nd rfl (Or.inl rfl) pe_int)
      (pss_cons (ps_set (i := 5) scMa.nd rfl (Or.inl rfl) (pv 1))
      (pss_cons (ps_set (i := 6) scMa.nd rfl (Or.inl rfl) pe_dnewK)
      (pss_cons (ps_for PassesOwn.never rfl (pi_range1 (by rfl) B.range (pa_cons (pe_op op_add pe_int (pe_call GD hr1 (by rfl) gD FD.kp bD .nil pass0 (pa_cons (pv 0) (pa_cons pe_int pa_nil)))) pa_nil)) (pg_name (i := 7) scMa.nd rfl (Or.inl rfl))
        (pss_cons (ps_if (PW.pt (pw_and (pt_cmpR op_eq (pv 5) pe_int (nomark _)) (pw_and1 (pt_cmpR op_gt (pe_call GD hr1 (by rfl) gD FD.kp bD .nil pass0 (pa_cons (pv 0) (pa_cons pe_int pa_nil))) pe_int (nomark _))))) (pss_one (ps_ret (pv 3))) pss_nil)
        (pss_cons (ps_set (i := 8) scMa.nd rfl (Or.inl rfl) (pe_call GN hr2 (by rfl) gN FN.kp bN .nil pass0 (pa_cons (pv 0) (pa_cons (pv 4) (pa_cons (pv 5) (pa_cons (pv 6) (pa_cons (pv 2) pa_nil)))))))
        (pss_cons (ps_expr (pe_bm PySem.F.plainAttrs_list PySem.F.slot_list_append PySem.F.type_list_append mt_append (pv 3) (pa_cons (pv 8) pa_nil)))
        (pss_one (ps_if (pt_cmpR op_isN (pe_call GR hr (by rfl) gR FR.kp bR .nil pass0 (pa_cons (pv 8) (pa_cons (pv 4) (pa_cons (pv 5) (pa_cons (pv 6) (pa_cons (pv 2) pa_nil)))))) pe_non (nomark _))
          (pss_one (ps_if (pt_cmpR op_eq (pe_ix ix_tup (pv 8) pe_int (fun _ _ => rfl)) pe_str (nomark _)) (pss_one (ps_dput hu (pv 6) (pe_ix ix_tup (pv 8) pe_int (fun _ _ => rfl)) (pv 4) rfl))
            (pss_one (ps_if (pt_cmpR op_eq (pe_ix ix_tup (pv 8) pe_int (fun _ _ => rfl)) pe_str (nomark _)) (pss_one (ps_set (i := 4) scMa.nd rfl (Or.inl rfl) (pe_dget hu (pv 6) (pe_ix ix_tup (pv 8) pe_int (fun _ _ => rfl)) (fun _ _ => rfl))))
              (pss_one (ps_if (pt_cmpR op_eq (pe_ix ix_tup (pv 8) pe_int (fun _ _ => rfl)) pe_str (nomark _)) (pss_one (ps_set (i := 4) scMa.nd rfl (Or.inl rfl) (pe_op op_add (pv 4) (pe_ix ix_tup (pv 8) pe_int (fun _ _ => rfl)))))
                (pss_cons (ps_set (i := 5) scMa.nd rfl (Or.inl rfl) (pe_op op_sub (pv 5) pe_int)) (pss_one (ps_set (i := 4) scMa.nd rfl (Or.inl rfl) (pe_un un_neg pe_int))))))))))
          (pss_one (ps_if (pt_cmpR op_gt (pe_call GD hr1 (by rfl) gD FD.kp bD .nil pass0 (pa_cons (pv 0) (pa_cons pe_int pa_nil))) pe_int (nomark _)) (pss_one (ps_expr (pe_bm0 PySem.F.plainAttrs_list PySem.F.slot_list_pop PySem.F.type_list_pop mt_pop (pv 3)))) pss_nil))))))))
      (pss_one (ps_ret (pv 3))))))), ?_⟩
    refine ⟨(by show 0 ≤ sizeLine; decide), fun l hl0 => ?_⟩
    obtain ⟨npl, nul⟩ := S.neN hl0
    refine ⟨_, rfl, fun d hd => ?_⟩
    have hd0 : H d = none := none_upd hd
    have nld : l ≠ d := ne_of_none upd_same hd
    obtain ⟨npd, nud⟩ := S.neN hd0
    have S1 : StAt (upd (upd H l (.lst [])) d (.dK [])) p u := (S.up hl0).up hd
    refine ⟨_, rfl, p, u, 90, rfl, S1, by decide, by decide, fun m H1 m0 m1 S2 B2 => ⟨_, _, rfl, rfl, (3 + m : Int), rfl, by omega, by omega, ?_⟩⟩
    refine for_range (fun i σ H' => ∃ (js : JS) (xs : List V) (v7 v8 : Option V), σ = [some (.ref p), some (.int beats), some (.int slots), some (.ref l), some (.int js.place), some (.int js.front), some (.ref d), v7, v8] ∧
      H' l = some (.lst xs) ∧ TupsAt H' xs ∧ xs.length ≤ i ∧ WFj js i ∧ H' d = some (.dK js.full) ∧ StAt H' p u ∧ But p H H')
      ⟨⟨0, beats, 0, []⟩, [], none, none, rfl, B2 _ _ (Ne.symm npl) (by rw [upd_ne nld]; exact upd_same), fun v hv => absurd hv List.not_mem_nil, Nat.le_refl _, ⟨b0, b1, (by show (-1 : Int) ≤ 0; decide), Nat.le_refl _, wfd_nil⟩, B2 _ _ (Ne.symm npd) upd_same, S2, (((But.refl p H).up hl0).up hd).trans B2⟩ ?_ ?_
    · rintro i σ H2 hi ⟨js, xs, v7, v8, rfl, hl, hT, hx, W, hd2, S3, B3⟩
      have hi92 : i < 92 := by omega
      refine share (C := fun H3 => StAt H3 p u ∧ But p H2 H3) (fun rest => ⟨_, rfl, rfl, _, rfl, iteD (fun c => ⟨_, rfl, p, u, 9, rfl, S3, by decide, by decide, fun n H3 _ _ S4 B4 => ⟨_, _, rfl, rfl, _, rfl, iteD (fun _ => ?_) (fun _ => rest H3 ⟨S4, B4⟩)⟩⟩) (fun c => iteF (rest H2 ⟨S3, But.refl p H2⟩))⟩) (fun H3 ⟨S4, B4⟩ => ?_)
      · exact ⟨_, rfl, k l xs _ hl0 (B4 _ _ (Ne.symm npl) hl) (hT.kt (KT.but S3 B4)) (by omega) S4 (B3.trans B4)⟩
      have hd3 := B4 _ _ (Ne.symm npd) hd2
      have hl3 := B4 _ _ (Ne.symm npl) hl
      have hT3 := hT.kt (KT.but S3 B4)
      have B5 := B3.trans B4
      refine ⟨_, rfl, _, rfl, _, rfl, _, rfl, _, rfl, p, u, d, js.place, js.front, slots, js.full, rfl, S4, hd3, W.wf, (by have := W.len; omega), W.f0, W.f1, W.p0, l1, fun q ys H4 hq4 S5 B6 => ?_⟩
      have hl4 := B6 _ _ (Ne.symm npl) hl3
      refine ⟨_, rfl, .inl ⟨rfl, _, SqL.of hl4⟩, _, rfl, l, xs, .ref q, rfl, rfl, hl4, Nat.lt_of_lt_of_le (show xs.length < 1000 by omega) (by decide), ?_⟩
      have k5 : KT H4 (upd H4 l (.lst (xs ++ [.ref q]))) := KT.lst hl4
      have hq5 := hq4.kt k5
      have hT5 := (((hT3.kt (KT.but S4 B6)).kt k5).snoc hq5)
      have S6 : StAt (upd H4 l (.lst (xs ++ [.ref q]))) p u := S5.updN npl nul
      have B7 : But p H (upd H4 l (.lst (xs ++ [.ref q]))) := (B5.trans B6).updN hl0
      have hd5 : upd H4 l (.lst (xs ++ [.ref q])) d = some (.dK js.full) := by rw [upd_ne (Ne.symm nld)]; exact B6 _ _ (Ne.symm npd) hd3
      have hl5 : upd H4 l (.lst (xs ++ [.ref q])) l = some (.lst (xs ++ [.ref q])) := upd_same
      have len5 : (xs ++ [V.ref q]).length ≤ i + 1 := by rw [List.length_append, List.length_singleton]; omega
      generalize upd H4 l (.lst (xs ++ [.ref q])) = H5 at *
      refine ⟨_, rfl, _, rfl, _, rfl, _, rfl, _, rfl, .ref q, .tup ys, js.place, js.front, d, js.full, slots, rfl, hq5, hd5, fun H6 s6 => ⟨rfl, _, rfl, ?_⟩⟩
      have hd6 := s6 _ _ hd5
      have hl6 := s6 _ _ hl5
      have S7 := S6.same s6
      have B8 := B7.same s6
      have hT6 := hT5.kt (KT.of s6)
      cases hq : reasonF slots js.place js.front js.full (.tup ys) with
      | none =>
        refine iteT ?_
        obtain ⟨a, ha, nf, hA⟩ := reason_none hq
        have hW := wf_step W hq ha
        obtain ⟨t, zs, et, ht0, hz⟩ := act_shape hq5 ha
        cases et
        have ht := s6 _ _ ht0
        rcases hz with ⟨rfl, rfl⟩ | ⟨n, rfl, hn1, rfl⟩ | ⟨n, rfl, hn1, rfl⟩ | ⟨n, rfl, hn1, rfl⟩
        · -- turn
          refine ⟨_, rfl, q, _, _, _, rfl, rfl, SqT.of ht, atI_nat (j := 0) rfl, rfl, _, rfl, iteD (fun z => absurd z (v_str s_tk)) (fun _ => ?_)⟩
          refine ⟨_, rfl, q, _, _, _, rfl, rfl, SqT.of ht, atI_nat (j := 0) rfl, rfl, _, rfl, iteD (fun z => absurd z (v_str s_tr)) (fun _ => ?_)⟩
          refine ⟨_, rfl, q, _, _, _, rfl, rfl, SqT.of ht, atI_nat (j := 0) rfl, rfl, _, rfl, iteD (fun z => absurd z (v_str s_ta)) (fun _ => ?_)⟩
          exact ⟨_, rfl, _, _, rfl, rfl, _, rfl, stepA js .turn, _, _, _, rfl, hl6, hT6, len5, hW, hd6, S7, B8⟩
        · -- advance
          refine ⟨_, rfl, q, _, _, _, rfl, rfl, SqT.of ht, atI_nat (j := 0) rfl, rfl, _, rfl, iteD (fun z => absurd z (v_str s_ak)) (fun _ => ?_)⟩
          refine ⟨_, rfl, q, _, _, _, rfl, rfl, SqT.of ht, atI_nat (j := 0) rfl, rfl, _, rfl, iteD (fun z => absurd z (v_str s_ar)) (fun _ => ?_)⟩
          refine ⟨_, rfl, q, _, _, _, rfl, rfl, SqT.of ht, atI_nat (j := 0) rfl, rfl, _, rfl, iteD (fun _ => ?_) (fun z => absurd rfl z)⟩
          exact ⟨_, rfl, _, rfl, q, _, _, _, rfl, rfl, SqT.of ht, atI_nat (j := 1) rfl, _, _, rfl, rfl, stepA js (.adv n), _, _, _, rfl, hl6, hT6, len5, hW, hd6, S7, B8⟩
        · -- keep
          refine ⟨_, rfl, q, _, _, _, rfl, rfl, SqT.of ht, atI_nat (j := 0) rfl, rfl, _, rfl, iteD (fun _ => ?_) (fun z => absurd rfl z)⟩
          exact ⟨_, rfl, _, rfl, _, rfl, q, _, _, _, rfl, rfl, SqT.of ht, atI_nat (j := 1) rfl, d, _, rfl, DPut.k (k := Sum.inl n) hd6 (small1000 (by have := W.len; omega)), stepA js (.keep n), _, _, _, rfl, by rw [upd_ne nld]; exact hl6, hT6.kt (KT.dct hd6), len5, hW, upd_same, S7.updN npd nud, B8.updN hd0⟩
        · -- restore
          obtain ⟨y, hv⟩ := Option.isSome_iff_exists.mp (rest_at hA)
          obtain ⟨z, hz, rfl⟩ := wfd_val W.wf hv
          refine ⟨_, rfl, q, _, _, _, rfl, rfl, SqT.of ht, atI_nat (j := 0) rfl, rfl, _, rfl, iteD (fun z => absurd z (v_str s_rk)) (fun _ => ?_)⟩
          refine ⟨_, rfl, q, _, _, _, rfl, rfl, SqT.of ht, atI_nat (j := 0) rfl, rfl, _, rfl, iteD (fun _ => ?_) (fun z => absurd rfl z)⟩
          refine ⟨_, rfl, _, rfl, q, _, _, _, rfl, rfl, SqT.of ht, atI_nat (j := 1) rfl, d, V.int z, rfl, hv ▸ DGet.k (k := Sum.inl n) hd6, stepA js (.rest n), _, some (.int (0 + (i : Int))), some (.ref q), ?_, hl6, hT6, len5, hW, hd6, S7, B8⟩
          have e : (stepA js (.rest n)).place = z := by
            show intOf (valV js.full (.inl n)) = z
            rw [hv]
            rfl
          rw [e]
          rfl
      | some z =>
        refine iteF ⟨_, rfl, p, u, 4, rfl, S7, by decide, by decide, fun n H7 _ _ S8 B9 => ⟨_, _, rfl, rfl, _, rfl, iteD (fun _ => ?_) (fun _ => ?_)⟩⟩
        · have hl7 := B9 _ _ (Ne.symm npl) hl6
          refine ⟨_, rfl, .inl ⟨rfl, _, SqL.of hl7⟩, l, _, .ref q, rfl, rfl, hl7, ?_, ?_⟩
          · rw [List.length_append, List.length_singleton]
            simp
          · rw [List.dropLast_concat]
            exact ⟨js, xs, _, _, rfl, upd_same, ((TupsAt.kt (H := H6) (fun v hv => hT6 v (List.mem_append_left _ hv)) (KT.but S7 B9)).kt (KT.lst hl7)), by omega, ⟨W.f0, W.f1, W.p0, Nat.le_succ_of_le W.len, W.wf⟩, by rw [upd_ne (Ne.symm nld)]; exact B9 _ _ (Ne.symm npd) hd6, S8.updN npl nul, (B8.trans B9).updN hl0⟩
        · exact ⟨js, _, _, _, rfl, B9 _ _ (Ne.symm npl) hl6, hT6.kt (KT.but S7 B9), len5, ⟨W.f0, W.f1, W.p0, Nat.le_succ_of_le W.len, W.wf⟩, B9 _ _ (Ne.symm npd) hd6, S8, B8.trans B9⟩
    · rintro σ H2 ⟨js, xs, v7, v8, rfl, hl, hT, hx, W, hd2, S3, B3⟩
      exact ⟨_, rfl, k l xs _ hl0 hl hT (by omega) S3 B3⟩
end
end L2.Kt

/-! # _law_spoilt, _law_argument -/
namespace L2.Kt
open PySem PySem.Spec PyProof.Rows PySem.KtX
theorem RowAt.but {H H' : Hp} {p u : Addr} {v : V} {r : Rw} (h : RowAt H v r) (S : StAt H p u) (b : But p H H') : RowAt H' v r := by
  cases r with
  | flat x => exact h
  | tup xs => exact RowAt.kt h (KT.but S b)
  | lst xs =>
    obtain ⟨q, e, hq, z⟩ := h
    obtain ⟨ns, a, c, d, h1, _⟩ := S
    refine ⟨q, e, b _ _ (ne_of hq h1 fun y => ?_) hq, z⟩
    cases y
    exact absurd (show false = true from z) Bool.false_ne_true
theorem rows_of {H : Hp} : ∀ {xs : List V}, (∀ v ∈ xs, ∃ r, RowAt H v r) → ∃ rs, RowsAt H xs rs
  | [], _ => ⟨[], .nil⟩
  | x :: xs, h => by
    obtain ⟨r, hr⟩ := h x List.mem_cons_self
    obtain ⟨rs, hrs⟩ := rows_of (H := H) (xs := xs) fun v hv => h v (List.mem_cons_of_mem _ hv)
    exact ⟨r :: rs, .cons hr hrs⟩
theorem mem_cut {xs : List V} {lo hi : Option Int} {v : V} (h : v ∈ cutV xs lo hi) : v ∈ xs := List.mem_of_mem_drop (List.mem_of_mem_take h)
theorem row_t {H : Hp} {q : Addr} {xs : List V} (h : H q = some (.tup xs)) (f : xs.all flatV = true) : RowAt H (.ref q) (.tup xs) := ⟨q, rfl, h, f⟩
theorem row_l {H : Hp} {q : Addr} {xs : List V} (h : H q = some (.lst xs)) (f : xs.all flatV = true) : RowAt H (.ref q) (.lst xs) := ⟨q, rfl, h, f⟩
def str12 (q5 q6 q7 q8 q9 q10 q11 : Addr) : List V := [.int 0, .int (-1), .non, .bl true, .str "turn", .ref q5, .ref q6, .ref q7, .ref q8, .ref q9, .ref q10, .ref q11]
theorem pick12 {H : Hp} {q5 q6 q7 q8 q9 q10 q11 : Addr} {r5 r6 r7 r8 r9 r10 r11 : Rw} {n : Int} (n0 : 0 ≤ n) (n1 : n < 12) (h5 : RowAt H (.ref q5) r5) (h6 : RowAt H (.ref q6) r6) (h7 : RowAt H (.ref q7) r7) (h8 : RowAt H (.ref q8) r8) (h9 : RowAt H (.ref q9) r9) (h10 : RowAt H (.ref q10) r10) (h11 : RowAt H (.ref q11) r11) :
    ∃ z r, atI (str12 q5 q6 q7 q8 q9 q10 q11) n = some z ∧ RowAt H z r := by
  have e : n = 0 ∨ n = 1 ∨ n = 2 ∨ n = 3 ∨ n = 4 ∨ n = 5 ∨ n = 6 ∨ n = 7 ∨ n = 8 ∨ n = 9 ∨ n = 10 ∨ n = 11 := by omega
  rcases e with rfl | rfl | rfl | rfl | rfl | rfl | rfl | rfl | rfl | rfl | rfl | rfl
  · exact ⟨_, .flat (.int 0), atI_nat (j := 0) rfl, rfl, rfl⟩
  · exact ⟨_, .flat (.int (-1)), atI_nat (j := 1) rfl, rfl, rfl⟩
  · exact ⟨_, .flat .non, atI_nat (j := 2) rfl, rfl, rfl⟩
  · exact ⟨_, .flat (.bl true), atI_nat (j := 3) rfl, rfl, rfl⟩
  · exact ⟨_, .flat (.str "turn"), atI_nat (j := 4) rfl, rfl, rfl⟩
  · exact ⟨_, _, atI_nat (j := 5) rfl, h5⟩
  · exact ⟨_, _, atI_nat (j := 6) rfl, h6⟩
  · exact ⟨_, _, atI_nat (j := 7) rfl, h7⟩
  · exact ⟨_, _, atI_nat (j := 8) rfl, h8⟩
  · exact ⟨_, _, atI_nat (j := 9) rfl, h9⟩
  · exact ⟨_, _, atI_nat (j := 10) rfl, h10⟩
  · exact ⟨_, _, atI_nat (j := 11) rfl, h11⟩
def spSpoilt : Sp := fun vs H Q _ => ∃ (p u l : Addr) (xs : List V), vs = [.ref p, .ref l] ∧ StAt H p u ∧ H l = some (.lst xs) ∧ l ≠ p ∧ TupsAt H xs ∧ xs.length ≤ 92 ∧ ∀ v sc H', SchedAt H' v sc → v ≠ .ref p → StAt H' p u → But p H H' → Q v H'
abbrev pSp : List Str := ["_law_state", "_law_rows"]
abbrev nSp : List Str := ["_law_state", "_law_rows", "_law_strange", "_law_what", "_law_place"]
section
variable {P : Program} {w : World} {K : PySem.W.Frag} {mg : Str → Option Value} {base : Heap}
theorem scSp : FnScope nSp pSp (defScope sSpoilt) := ⟨rfl, rfl, rfl, by decide +kernel, rfl, by decide +kernel, by decide +kernel⟩
theorem ok_spoilt {f fD : Addr} {fd fdD : FuncData} (F : Fun K "_law_spoilt" "_law_spoilt" sSpoilt f fd) (B : Blt mg) (FD : Fun K "_law_draw" "_law_draw" sDraw fD fdD) (gD : mg "_law_draw" = some (.ref fD)) (bD : Binds K fdD ["_law_state", "_law_many"] []) :
    FnOk P w K mg base CX0 2 f fd pSp spSpoilt := by
  have GD : FnOk P w K mg base CX0 1 fD fdD ["_law_state", "_law_many"] spDraw := ok_draw FD B
  refine F.ok scSp (fun vs H Q E h => ?_) (fun cdv A outer s H vs Q E hr h => ?_)
  · obtain ⟨p, u, l, xs, rfl, _⟩ := h
    rfl
  · obtain ⟨p, u, l, xs, rfl, S, hl, nlp, hT, hx, k⟩ := h
    refine ⟨_, pss_cons (ps_set (i := 2) scSp.nd rfl (Or.inl rfl) (pe_lst (pa_cons pe_int (pa_cons (pe_un un_neg pe_int) (pa_cons pe_non (pa_cons pe_bl (pa_cons pe_str (pa_cons (pe_tup pa_nil) (pa_cons (pe_tup (pa_cons pe_str (pa_cons pe_int pa_nil)))
        (pa_cons (pe_tup (pa_cons pe_str (pa_cons pe_bl pa_nil))) (pa_cons (pe_tup (pa_cons pe_str pa_nil)) (pa_cons (pe_lst (pa_cons pe_str pa_nil)) (pa_cons (pe_tup (pa_cons pe_str (pa_cons pe_str pa_nil))) (pa_cons (pe_tup (pa_cons pe_int (pa_cons pe_int pa_nil))) pa_nil))))))))))))))
      (pss_cons (ps_set (i := 3) scSp.nd rfl (Or.inl rfl) (pe_ix ix_list (pv 2) (pe_call GD hr (by rfl) gD FD.kp bD .nil pass0 (pa_cons (pv 0) (pa_cons pe_int pa_nil))) (fun _ _ => rfl)))
      (pss_cons (ps_set (i := 4) scSp.nd rfl (Or.inl rfl) (pe_call GD hr (by rfl) gD FD.kp bD .nil pass0 (pa_cons (pv 0) (pa_cons (pe_op op_add (pe_callB call_len_seq (by rfl) B.len btLen (pa_cons (pv 1) pa_nil)) pe_int) pa_nil))))
      (pss_cons (ps_if (pt_cmpR op_eq (pe_call GD hr (by rfl) gD FD.kp bD .nil pass0 (pa_cons (pv 0) (pa_cons pe_int pa_nil))) pe_int (nomark _)) (pss_one (ps_ret (pv 1))) pss_nil)
      (pss_one (ps_ret (pe_callTy call_tuple_of (by rfl) B.tuple btTuple (pa_cons (pe_op op_cat (pe_op op_cat (pe_slice sl_list (pv 1) po_none (po_some (pv 4))) (pe_lst (pa_cons (pv 3) pa_nil)))
        (pe_slice sl_list (pv 1) (po_some (pe_op op_add (pv 4) (pe_call GD hr (by rfl) gD FD.kp bD .nil pass0 (pa_cons (pv 0) (pa_cons pe_int pa_nil))))) po_none)) pa_nil))))))), ?_⟩
    refine ⟨_, rfl, (by show 0 ≤ sizeLine; decide), fun q5 hq5 => ⟨(by show 2 ≤ sizeLine; decide), fun q6 hq6 => ⟨(by show 2 ≤ sizeLine; decide), fun q7 hq7 => ⟨(by show 1 ≤ sizeLine; decide), fun q8 hq8 => ⟨(by show 1 ≤ sizeLine; decide), fun q9 hq9 => ⟨(by show 2 ≤ sizeLine; decide), fun q10 hq10 => ⟨(by show 2 ≤ sizeLine; decide), fun q11 hq11 => ⟨(by show 12 ≤ sizeLine; decide), fun L hL => ?_⟩⟩⟩⟩⟩⟩⟩⟩
    have sL := upd_sm (o := .lst (str12 q5 q6 q7 q8 q9 q10 q11)) hL
    have s11 := (upd_sm (o := .tup [.int 1, .int 2]) hq11).trans sL
    have s10 := (upd_sm (o := .tup [.str "restore", .str "0"]) hq10).trans s11
    have s9 := (upd_sm (o := .lst [.str "turn"]) hq9).trans s10
    have s8 := (upd_sm (o := .tup [.str "keep"]) hq8).trans s9
    have s7 := (upd_sm (o := .tup [.str "advance", .bl true]) hq7).trans s8
    have s6 := (upd_sm (o := .tup [.str "turn", .int 0]) hq6).trans s7
    have s5 := (upd_sm (o := .tup []) hq5).trans s6
    have S1 := S.same s5
    have nLp : L ≠ p := Ne.symm (S.neN (none_of_same (((((((upd_sm (o := .tup []) hq5).trans (upd_sm (o := .tup [.str "turn", .int 0]) hq6)).trans (upd_sm (o := .tup [.str "advance", .bl true]) hq7)).trans (upd_sm (o := .tup [.str "keep"]) hq8)).trans (upd_sm (o := .lst [.str "turn"]) hq9)).trans (upd_sm (o := .tup [.str "restore", .str "0"]) hq10)).trans (upd_sm (o := .tup [.int 1, .int 2]) hq11)) hL)).1
    refine ⟨_, rfl, _, rfl, p, u, 12, rfl, S1, by decide, by decide, fun n H1 n0 n1 S2 B2 => ?_⟩
    have hz : ∃ z r, atI (str12 q5 q6 q7 q8 q9 q10 q11) n = some z ∧ RowAt _ z r := pick12 n0 n1 (row_t (s6 _ _ upd_same) rfl) (row_t (s7 _ _ upd_same) rfl) (row_t (s8 _ _ upd_same) rfl) (row_t (s9 _ _ upd_same) rfl) (row_l (s10 _ _ upd_same) rfl) (row_t (s11 _ _ upd_same) rfl) (row_t (sL _ _ upd_same) rfl)
    obtain ⟨z, r, hz1, hz2⟩ := hz
    have rz := hz2.but S1 B2
    have B3 : But p H H1 := (But.of s5).trans B2
    have hl1 := B3 _ _ nlp hl
    refine ⟨L, _, _, z, rfl, rfl, SqL.of (B2 _ _ nLp upd_same), hz1, ?_⟩
    refine ⟨_, rfl, _, rfl, l, xs, rfl, .inl (SqL.of hl1), _, _, rfl, rfl, p, u, _, rfl, S2, (by omega), (by omega), fun pl H2 z0 z1 S3 B4 => ?_⟩
    refine ⟨_, rfl, p, u, 6, rfl, S3, by decide, by decide, fun n3 H3 _ _ S4 B5 => ⟨rfl, _, rfl, iteD (fun _ => ?_) (fun _ => ?_)⟩⟩
    · exact ⟨_, rfl, k (.ref l) none H3 ⟨l, xs, rfl, B5 _ _ nlp (B4 _ _ nlp hl1)⟩ (fun e => nlp (V.ref.inj e)) S4 ((B3.trans B4).trans B5)⟩
    have hl3 := B5 _ _ nlp (B4 _ _ nlp hl1)
    have B6 : But p H H3 := (B3.trans B4).trans B5
    have hT3 := hT.kt (KT.but S B6)
    have rz3 := (rz.but S2 B4).but S3 B5
    refine ⟨_, rfl, _, rfl, _, rfl, l, xs, rfl, SqL.of hl3, fun a ha => ⟨_, rfl, (by show 1 ≤ sizeLine; decide), fun b hb => ?_⟩⟩
    have S5 := (S4.up (o := .lst (cutV xs none (some pl))) ha).up (o := .lst [z]) hb
    have sb : Same H3 (upd (upd H3 a (.lst (cutV xs none (some pl)))) b (.lst [z])) := (upd_sm ha).trans (upd_sm hb)
    have c1 : (cutV xs none (some pl)).length ≤ 92 := Nat.le_trans (cutV_length xs none (some pl)) hx
    refine ⟨a, b, _, _, rfl, rfl, upd_sm hb _ _ upd_same, upd_same, Nat.le_trans (show (cutV xs none (some pl)).length + 1 ≤ 1000 by omega) (by decide), fun c hc => ?_⟩
    have ncp : c ≠ p := Ne.symm (S5.neN hc).1
    have sc := sb.trans (upd_sm (o := .lst (cutV xs none (some pl) ++ [z])) hc)
    refine ⟨_, rfl, _, rfl, _, rfl, p, u, 2, rfl, S5.up hc, by decide, by decide, fun n4 H4 _ _ S6 B7 => ⟨_, _, rfl, rfl, _, rfl, l, xs, rfl, SqL.of (B7 _ _ nlp (sc _ _ hl3)), fun e he => ?_⟩⟩
    have c2 : (cutV xs (some (pl + n4)) none).length ≤ 92 := Nat.le_trans (cutV_length xs (some (pl + n4)) none) hx
    have c3 : (cutV xs none (some pl) ++ [z]).length ≤ 93 := by rw [List.length_append, List.length_singleton]; omega
    have c4 : (cutV xs none (some pl) ++ [z] ++ cutV xs (some (pl + n4)) none).length ≤ 185 := by rw [List.length_append]; omega
    refine ⟨c, e, _, _, rfl, rfl, upd_sm he _ _ (B7 _ _ ncp upd_same), upd_same, Nat.le_trans (show (cutV xs none (some pl) ++ [z]).length + (cutV xs (some (pl + n4)) none).length ≤ 1000 by omega) (by decide), fun g hg => ⟨g, _, rfl, .inl ⟨SqL.of upd_same, fun t ht => ?_⟩⟩⟩
    have s4 := ((upd_sm (o := .lst (cutV xs (some (pl + n4)) none)) he).trans (upd_sm (o := .lst (cutV xs none (some pl) ++ [z] ++ cutV xs (some (pl + n4)) none)) hg)).trans (upd_sm (o := .tup (cutV xs none (some pl) ++ [z] ++ cutV xs (some (pl + n4)) none)) ht)
    have hTe := (hT3.kt (KT.of sc)).kt ((KT.but (S5.up hc) B7).trans (KT.of s4))
    have rze := RowAt.same ((rz3.same sc).but (S5.up hc) B7) s4
    obtain ⟨rs, hrs⟩ := rows_of (xs := cutV xs none (some pl) ++ [z] ++ cutV xs (some (pl + n4)) none) fun v hv => by
      rcases List.mem_append.mp hv with q | q
      · rcases List.mem_append.mp q with q | q
        · obtain ⟨ys, hy⟩ := hTe v (mem_cut q)
          exact ⟨_, hy⟩
        · rw [List.mem_singleton.mp q]
          exact ⟨_, rze⟩
      · obtain ⟨ys, hy⟩ := hTe v (mem_cut q)
        exact ⟨_, hy⟩
    refine k (.ref t) (some rs) _ ⟨t, _, rfl, upd_same, hrs, ?_⟩ (fun e => (((S6.up he).up hg).neN ht).1 (V.ref.inj e).symm) (S6.same s4) (((B6.same sc).trans B7).same s4)
    have e2 := Paired.length hrs
    omega
end
end L2.Kt

/-! # _law_argument -/
namespace L2.Kt
open PySem PySem.Spec PyProof.Rows PySem.KtX
def spArg : Sp := fun vs H Q _ => ∃ (sv bv lv : V) (sc : Option (List Rw)) (z : Str), vs = [sv, bv, lv, .str z] ∧ SchedAt H sv sc ∧ TyOk H bv ∧ TyOk H lv ∧
  ((okNum 40 bv = false ∧ z = "beats") ∨ (okNum 40 bv = true ∧ okNum 8 lv = false ∧ z = "slots")) ∧ ∀ H', Same H H' → Q (.bl true) H'
abbrev pAr : List Str := ["_law_schedule", "_law_beats", "_law_slots", "_law_reason_here"]
abbrev nAr : List Str := ["_law_schedule", "_law_beats", "_law_slots", "_law_reason_here", "e"]
theorem okNum_of {hi n : Int} (h0 : 0 ≤ n) (h1 : n ≤ hi) : okNum hi (.int n) = true := Bool.and_eq_true_iff.mpr ⟨decide_eq_true h0, decide_eq_true h1⟩
section
variable {P : Program} {w : World} {K : PySem.W.Frag} {mg : Str → Option Value} {base : Heap}
theorem scAr : FnScope nAr pAr (defScope sArg) := ⟨rfl, rfl, rfl, by decide +kernel, rfl, by decide +kernel, by decide +kernel⟩
theorem ok_arg {f fJ CA CS fE cc cda : Addr} {fd fdJ : FuncData} (F : Fun K "_law_argument" "_law_argument" sArg f fd) (GJ : ∀ base : Heap, FnOk P w K mg base (L2.CX P w) 4 fJ fdJ ["schedule", "beats", "slots"] (spJudge CA CS)) (gJ : mg "judge" = some (.ref fJ)) (kJ : PySem.W.keepIn K (.ref fJ) = true) (bJ : Binds K fdJ ["schedule", "beats", "slots"] [])
    (TA : ErrTxt P K mg "ArgumentError" "ArgumentError.__init__" sInitA CA fE cc cda) (xA : PySem.W.exmOne K (.ref CA) (.ref CA) = some true) : FnOk P w K mg base CX0 6 f fd pAr spArg := by
  refine F.ok scAr (fun vs H Q E h => ?_) (fun cdv A outer s H vs Q E hr h => ?_)
  · obtain ⟨sv, bv, lv, sc, z, rfl, _⟩ := h
    rfl
  · obtain ⟨sv, bv, lv, sc, z, rfl, hS, t1, t2, hz, k⟩ := h
    have hr1 : Room 4 _ := hr.mono (by decide)
    refine ⟨_, pss_cons (ps_try_as (i := 4) (tb := fun W => tDrop (tCallS (spJudge CA CS) (WE W) (tCons (tVar 0) (tCons (tVar 1) (tCons (tVar 2) tNil))))) (ts := fun a cls d => tRet (tOp rEq (tXf a cls d CA "reason" (tVar 4)) (tVar 3))) (Wout := fun _ _ _ _ => False) rfl rfl scAr.nd rfl rfl ⟨rfl, by decide, Or.inl TA.gC⟩ takes0
        (fun W pn xe tk _ => pss_one (ps_expr (by exact (pe_callS (GJ _) hr1 rfl gJ kJ bJ (fun σ => passAt tk σ) (by exact (pa_cons (pv 0) (pa_cons (pv 1) (pa_cons (pv 2) pa_nil))))))))
        (fun a oe cls d pn hz hf => pss_one (ps_ret (by exact (pe_cmpR op_eq (pe_xf (xf_of (is_of TA)) TA.noR hz hf (pv 4)) (pv 3) (nomark _))))))
      (pss_one (ps_ret pe_bl)), ?_⟩
    have fin : ∀ (y : Str) (d : Addr), z = y → H d = none → Q (.bl (decide (V.str y = V.str z))) (upd H d (.xd [("reason", .str y)])) := fun y d e hd => by
      rw [e, decide_eq_true rfl]
      exact k _ (upd_sm hd)
    refine ⟨_, rfl, _, rfl, _, rfl, sv, bv, lv, sc, rfl, hS, t1, t2, fun c d hd => ⟨true, xA, fun _ a ha => ?_, fun q => Bool.noConfusion q⟩, fun c c2 d hd => ⟨true, xA, fun _ a ha => ?_, fun q => Bool.noConfusion q⟩, fun beats slots e1 e2 b0 b1 l0 l1 => ?_⟩
    · have e : z = "beats" := by
        rcases hz with ⟨_, e⟩ | ⟨e, _⟩
        · exact e
        · rw [c] at e; cases e
      exact ⟨_, rfl, rfl, rfl, d, _, .str "beats", rfl, upd_same, rfl, _, rfl, rfl, fin "beats" d e hd⟩
    · have e : z = "slots" := by
        rcases hz with ⟨e, _⟩ | ⟨_, _, e⟩
        · rw [c] at e; cases e
        · exact e
      exact ⟨_, rfl, rfl, rfl, d, _, .str "slots", rfl, upd_same, rfl, _, rfl, rfl, fin "slots" d e hd⟩
    · subst e1 e2
      rcases hz with ⟨e, _⟩ | ⟨_, e, _⟩
      · rw [okNum_of b0 b1] at e; cases e
      · rw [okNum_of l0 l1] at e; cases e
end
end L2.Kt

/-! # law: the parts -/
namespace L2.Kt
open PySem PySem.Spec PyProof.Rows PySem.KtX
/-! ### the texts of the reasons are short, the numbers small -/
def reasonsL : List Str := ["form", "done", "slot", "empty", "nowhere", "beyond", "turn", "unfinished"]
theorem repr_ok : ∀ z ∈ reasonsL, (reprText z).length ≤ 100 := by decide +kernel
theorem pair_ok : ∀ n ∈ List.range 202, ∀ z ∈ reasonsL, (reprPair ((n : Int) - 1) z).length ≤ 1000 := by decide +kernel
theorem reasonA_in {slots place front : Int} {full : Full} {a : Act} {z : Str} (h : reasonA slots place front full a = some z) : z ∈ reasonsL := by
  unfold reasonA at h
  cases a <;> (simp only [] at h; repeat' split at h) <;> first
    | (cases h; done)
    | (cases h; decide +kernel)
theorem reasonF_in {slots place front : Int} {full : Full} {r : Rw} {z : Str} (h : reasonF slots place front full r = some z) : z ∈ reasonsL := by
  unfold reasonF at h
  split at h
  · cases h; decide +kernel
  · split at h
    · cases h; decide +kernel
    · exact reasonA_in h
theorem judgeL_in {slots : Int} {z : Str} {j : Int} : ∀ {rs : List Rw} {k : Nat} {js : JS}, judgeL slots rs k js = .sch j z → 0 ≤ j ∧ j ≤ k + rs.length ∧ z ∈ reasonsL
  | [], k, js, h => by
    unfold judgeL at h
    split at h
    · cases h
    · cases h
      exact ⟨by omega, by simp, by decide +kernel⟩
  | r :: rs, k, js, h => by
    unfold judgeL at h
    split at h
    · rename_i y hy
      cases h
      exact ⟨by omega, by simp only [List.length_cons]; omega, reasonF_in hy⟩
    · obtain ⟨h1, h2, h3⟩ := judgeL_in h
      exact ⟨h1, by simp only [List.length_cons]; omega, h3⟩
    · cases h
      exact ⟨by omega, by simp only [List.length_cons]; omega, by decide +kernel⟩
theorem judgeF_in {beats slots : Int} {sc : Option (List Rw)} {z : Str} {j : Int} (h : judgeF beats slots sc = .sch j z) (hl : ∀ rs, sc = some rs → rs.length ≤ 200) : -1 ≤ j ∧ j ≤ 200 ∧ z ∈ reasonsL := by
  cases sc with
  | none =>
    cases h
    exact ⟨by decide, by decide, by decide +kernel⟩
  | some rs =>
    obtain ⟨h1, h2, h3⟩ := judgeL_in (rs := rs) (k := 0) h
    have := hl rs rfl
    exact ⟨by omega, by omega, h3⟩
theorem sched_len {H : Hp} {v : V} {sc : Option (List Rw)} (h : SchedAt H v sc) : ∀ rs, sc = some rs → rs.length ≤ 200 := by
  rintro rs rfl
  obtain ⟨p, xs, _, _, _, hl⟩ := h
  exact hl
/-- what repr asks -/
theorem repr_ready {j : Int} {z : Str} (h0 : -1 ≤ j) (h1 : j ≤ 200) (hz : z ∈ reasonsL) : j.natAbs.log2 < 1920 ∧ (reprText z).length ≤ sizeLine ∧ (reprPair j z).length ≤ sizeLine := by
  refine ⟨?_, Nat.le_trans (repr_ok z hz) (by decide), ?_⟩
  · have e : j.natAbs < 201 := by omega
    by_cases c : j.natAbs = 0
    · rw [c]; decide
    · exact Nat.lt_trans ((Nat.log2_lt c (k := 8)).mpr (Nat.lt_of_lt_of_le e (by decide))) (by decide)
  · have q := pair_ok (j + 1).toNat (List.mem_range.mpr (by omega)) z hz
    rw [show (((j + 1).toNat : Nat) : Int) - 1 = j by omega] at q
    exact Nat.le_trans q (by decide)
/-! ### what a draw leaves -/
theorem RowsAt.but {H H' : Hp} {p u : Addr} {xs : List V} {rs : List Rw} (h : RowsAt H xs rs) (S : StAt H p u) (b : But p H H') : RowsAt H' xs rs := by
  unfold RowsAt at h ⊢
  induction h with
  | nil => exact .nil
  | cons a _ ih => exact .cons (RowAt.but a S b) ih
theorem SchedAt.but {H H' : Hp} {p u : Addr} {v : V} {sc : Option (List Rw)} (h : SchedAt H v sc) (S : StAt H p u) (b : But p H H') (n : v ≠ .ref p) : SchedAt H' v sc := by
  cases sc with
  | none => obtain ⟨q, xs, rfl, hq⟩ := h; exact ⟨q, xs, rfl, b _ _ (fun z => n (by rw [z])) hq⟩
  | some rs => obtain ⟨q, xs, rfl, hq, hr, hl⟩ := h; exact ⟨q, xs, rfl, b _ _ (fun z => n (by rw [z])) hq, hr.but S b, hl⟩
/-- a wrong count -/
def WrongAt (H : Hp) (v : V) : Prop := (flatV v = true ∨ ∃ p xs, v = .ref p ∧ H p = some (.tup xs)) ∧ okNum 40 v = false ∧ okNum 8 v = false
theorem WrongAt.ty {H : Hp} {v : V} (h : WrongAt H v) : TyOk H v := by
  rcases h with ⟨f | f, _⟩
  · exact .inl f
  · exact .inr (.inl f)
theorem WrongAt.kt {H H' : Hp} {v : V} (h : WrongAt H v) (k : KT H H') : WrongAt H' v := by
  rcases h with ⟨f | ⟨p, xs, e, hp⟩, r⟩
  · exact ⟨.inl f, r⟩
  · exact ⟨.inr ⟨p, xs, e, k _ _ hp⟩, r⟩
theorem pick6 {H : Hp} {q : Addr} {n : Int} (n0 : 0 ≤ n) (n1 : n < 6) (h : H q = some (.tup [.int 2])) : ∃ z, atI [V.int (-1), .int 41, .non, .bl true, .str "3", .ref q] n = some z ∧ WrongAt H z := by
  have e : n = 0 ∨ n = 1 ∨ n = 2 ∨ n = 3 ∨ n = 4 ∨ n = 5 := by omega
  rcases e with rfl | rfl | rfl | rfl | rfl | rfl
  · exact ⟨_, atI_nat (j := 0) rfl, .inl rfl, rfl, rfl⟩
  · exact ⟨_, atI_nat (j := 1) rfl, .inl rfl, rfl, rfl⟩
  · exact ⟨_, atI_nat (j := 2) rfl, .inl rfl, rfl, rfl⟩
  · exact ⟨_, atI_nat (j := 3) rfl, .inl rfl, rfl, rfl⟩
  · exact ⟨_, atI_nat (j := 4) rfl, .inl rfl, rfl, rfl⟩
  · exact ⟨_, atI_nat (j := 5) rfl, .inr ⟨q, _, rfl, h⟩, rfl, rfl⟩
theorem pick3 {H : Hp} {v : V} {n : Int} (n0 : 0 ≤ n) (n1 : n < 3) (h : WrongAt H v) : ∃ z, atI [v, .int 9, .int (-1)] n = some z ∧ TyOk H z ∧ okNum 8 z = false := by
  have e : n = 0 ∨ n = 1 ∨ n = 2 := by omega
  rcases e with rfl | rfl | rfl
  · exact ⟨_, atI_nat (j := 0) rfl, h.ty, h.2.2⟩
  · exact ⟨_, atI_nat (j := 1) rfl, .inl rfl, rfl⟩
  · exact ⟨_, atI_nat (j := 2) rfl, .inl rfl, rfl⟩
theorem share2 {α : Type} {T C : α → Hp → Prop} {G : Prop} (h : (∀ v H2, C v H2 → T v H2) → G) (r : ∀ v H2, C v H2 → T v H2) : G := h r
end L2.Kt

/-! # law -/
namespace L2.Kt
open PySem PySem.Spec PyProof.Rows PySem.KtX
def spLaw (K : PySem.W.Frag) : Sp := fun vs H Q _ => ∃ (a : Addr) (ns : List Int), vs = [.ref a] ∧ SqL K H a (ns.map V.int) ∧ ns.length ≤ 63 ∧ ∀ H', Q (.bl true) H'
abbrev nLw : List Str := ["_law_script", "_law_state", "_law_beats", "_law_slots", "_law_rows", "_law_schedule", "_law_wrong", "_law_due", "_law_actual", "e"]
/-- the suite of the last clause -/
def tSuite (K : PySem.W.Frag) (CA CS : Addr) : Addr → Value → Option Addr → TS := fun a cls d =>
  tSeq (tIfS (tOr (tNot (tB (tCB (rIsX K a cls d) (tCons (tVar 9) (tCons (tC (.ref CS)) tNil))))) (tOr (tNot (tB (tCB (rIsX K a cls d) (tCons (tVar 9) (tCons (tC (.ty "ValueError")) tNil))))) (tB (tCB (rIsX K a cls d) (tCons (tVar 9) (tCons (tC (.ref CA)) tNil)))))) (tRet (tC (.bl false))) tNext)
    (tRet (tOp rEq (tCB (rRepr K) (tCons (tTup (tCons (tXf a cls d CS "number" (tVar 9)) (tCons (tXf a cls d CS "reason" (tVar 9)) tNil))) tNil)) (tCB (rRepr K) (tCons (tVar 7) tNil))))
section
variable {P : Program} {w : World} {K : PySem.W.Frag} {mg : Str → Option Value} {base : Heap}
theorem scLw : FnScope nLw ["_law_script"] (defScope sLaw) := ⟨rfl, rfl, rfl, by decide +kernel, rfl, by decide +kernel, by decide +kernel⟩
theorem ok_law {f fSt fD fM fSp fA fL fJ CA CS CM fE cc cda fE2 cc2 cda2 : Addr} {fd fdSt fdD fdM fdSp fdA fdL fdJ : FuncData} (F : Fun K "law" "law" sLaw f fd) (B : Blt mg)
    (GS : FnOk P w K mg base CX0 1 fSt fdSt ["_law_script"] (spStart K)) (gS : mg "_law_start" = some (.ref fSt)) (kS : PySem.W.keepIn K (.ref fSt) = true) (bS : Binds K fdSt ["_law_script"] [])
    (GD : FnOk P w K mg base CX0 1 fD fdD ["_law_state", "_law_many"] spDraw) (gD : mg "_law_draw" = some (.ref fD)) (kD : PySem.W.keepIn K (.ref fD) = true) (bD : Binds K fdD ["_law_state", "_law_many"] [])
    (GM : FnOk P w K mg base CX0 4 fM fdM pMa spMade) (gM : mg "_law_made" = some (.ref fM)) (kM : PySem.W.keepIn K (.ref fM) = true) (bM : Binds K fdM pMa [])
    (GP : FnOk P w K mg base CX0 2 fSp fdSp pSp spSpoilt) (gP : mg "_law_spoilt" = some (.ref fSp)) (kP : PySem.W.keepIn K (.ref fSp) = true) (bP : Binds K fdSp pSp [])
    (GA : FnOk P w K mg base CX0 6 fA fdA pAr spArg) (gA : mg "_law_argument" = some (.ref fA)) (kA : PySem.W.keepIn K (.ref fA) = true) (bA : Binds K fdA pAr [])
    (GL : FnOk P w K mg base CX0 4 fL fdL pLJ spLJudge) (gL : mg "_law_judge" = some (.ref fL)) (kL : PySem.W.keepIn K (.ref fL) = true) (bL : Binds K fdL pLJ [])
    (GJ : FnOk P w K mg base (L2.CX P w) 4 fJ fdJ ["schedule", "beats", "slots"] (spJudge CA CS)) (gJ : mg "judge" = some (.ref fJ)) (kJ : PySem.W.keepIn K (.ref fJ) = true) (bJ : Binds K fdJ ["schedule", "beats", "slots"] [])
    (TA : ErrTxt P K mg "ArgumentError" "ArgumentError.__init__" sInitA CA fE cc cda) (TS : ErrTxt P K mg "ScheduleError" "ScheduleError.__init__" sInitS CS fE2 cc2 cda2) (gC : mg "CountermarchError" = some (.ref CM))
    (xM : PySem.W.exmOne K (.ref CS) (.ref CM) = some true) (i1 : PySem.W.kitOne K (.ref CS) (.ref CS) = some true) (i2 : PySem.W.kitOne K (.ref CS) (.type "ValueError") = some true) (i3 : PySem.W.kitOne K (.ref CS) (.ref CA) = some false) :
    FnC P w K mg base f fd ["_law_script"] (spLaw K) := by
  have hr0 : Room 8 callerA := ⟨rfl, by decide +kernel, by decide +kernel⟩
  refine fnC_ok F scLw hr0 (fun vs H Q E h => ?_) (fun cdv s H vs Q h => ?_)
  · obtain ⟨a, ns, rfl, _⟩ := h
    rfl
  · obtain ⟨a, ns, rfl, hS, hl, k⟩ := h
    have hr : Room 7 (cxOf CX0 P w K mg base nLw "law" (defScope sLaw) f cdv callerA [] s H E0).A := hr0.deeper _
    have hu := hu_of hr
    have r1 : Room 1 (cxOf CX0 P w K mg base nLw "law" (defScope sLaw) f cdv callerA [] s H E0).A := hr.mono (by decide)
    have r2 : Room 2 (cxOf CX0 P w K mg base nLw "law" (defScope sLaw) f cdv callerA [] s H E0).A := hr.mono (by decide)
    have r4 : Room 4 (cxOf CX0 P w K mg base nLw "law" (defScope sLaw) f cdv callerA [] s H E0).A := hr.mono (by decide)
    have r6 : Room 6 (cxOf CX0 P w K mg base nLw "law" (defScope sLaw) f cdv callerA [] s H E0).A := hr.mono (by decide)
    refine ⟨_, pss_cons (ps_set (i := 1) scLw.nd rfl (Or.inl rfl) (pe_call GS r1 (by rfl) gS kS bS .nil pass0 (pa_cons (pv 0) pa_nil)))
      (pss_cons (ps_set (i := 2) scLw.nd rfl (Or.inl rfl) (pe_ifExp (pt_cmpR op_eq (pe_call GD r1 (by rfl) gD kD bD .nil pass0 (pa_cons (pv 1) (pa_cons pe_int pa_nil))) pe_int (nomark _)) (pe_call GD r1 (by rfl) gD kD bD .nil pass0 (pa_cons (pv 1) (pa_cons pe_int pa_nil))) (pe_call GD r1 (by rfl) gD kD bD .nil pass0 (pa_cons (pv 1) (pa_cons pe_int pa_nil)))))
      (pss_cons (ps_set (i := 3) scLw.nd rfl (Or.inl rfl) (pe_call GD r1 (by rfl) gD kD bD .nil pass0 (pa_cons (pv 1) (pa_cons pe_int pa_nil))))
      (pss_cons (ps_set (i := 4) scLw.nd rfl (Or.inl rfl) (pe_call GM r4 (by rfl) gM kM bM .nil pass0 (pa_cons (pv 1) (pa_cons (pv 2) (pa_cons (pv 3) pa_nil)))))
      (pss_cons (ps_set (i := 5) scLw.nd rfl (Or.inl rfl) (pe_callTy call_tuple_of (by rfl) B.tuple btTuple (pa_cons (pv 4) pa_nil)))
      (pss_cons (ps_if (pt_cmpR op_eq (pe_call GD r1 (by rfl) gD kD bD .nil pass0 (pa_cons (pv 1) (pa_cons pe_int pa_nil))) pe_int (nomark _)) (pss_one (ps_set (i := 5) scLw.nd rfl (Or.inl rfl) (pe_call GP r2 (by rfl) gP kP bP .nil pass0 (pa_cons (pv 1) (pa_cons (pv 4) pa_nil))))) pss_nil)
      (pss_cons (ps_set (i := 6) scLw.nd rfl (Or.inl rfl) (pe_ix ix_list (pe_lst (pa_cons (pe_un un_neg pe_int) (pa_cons pe_int (pa_cons pe_non (pa_cons pe_bl (pa_cons pe_str (pa_cons (pe_tup (pa_cons pe_int pa_nil)) pa_nil))))))) (pe_call GD r1 (by rfl) gD kD bD .nil pass0 (pa_cons (pv 1) (pa_cons pe_int pa_nil))) (fun _ _ => rfl)))
      (pss_cons (ps_if (PW.pt (pw_or (pt_not (pt_val (pe_call GA r6 (by rfl) gA kA bA .nil pass0 (pa_cons (pv 5) (pa_cons (pv 6) (pa_cons (pv 6) (pa_cons pe_str pa_nil)))))))
          (pw_or1 (pt_not (pt_val (pe_call GA r6 (by rfl) gA kA bA .nil pass0 (pa_cons (pv 5) (pa_cons (pv 2) (pa_cons (pe_ix ix_list (pe_lst (pa_cons (pv 6) (pa_cons pe_int (pa_cons (pe_un un_neg pe_int) pa_nil)))) (pe_call GD r1 (by rfl) gD kD bD .nil pass0 (pa_cons (pv 1) (pa_cons pe_int pa_nil))) (fun _ _ => rfl)) (pa_cons pe_str pa_nil))))))))))
        (pss_one (ps_ret pe_bl)) pss_nil)
      (pss_cons (ps_set (i := 7) scLw.nd rfl (Or.inl rfl) (pe_call GL r4 (by rfl) gL kL bL .nil pass0 (pa_cons (pv 5) (pa_cons (pv 2) (pa_cons (pv 3) pa_nil)))))
      (pss_cons (ps_try_as (i := 9) (tb := fun W => tAsg (tCallS (spJudge CA CS) (WE W) (tCons (tVar 5) (tCons (tVar 2) (tCons (tVar 3) tNil)))) (gName 8)) (ts := tSuite K CA CS) (Wout := fun _ _ _ _ => False) rfl rfl scLw.nd rfl rfl ⟨rfl, by decide, Or.inl gC⟩ takes0
        (fun W pn xe tk _ => pss_one (ps_set (i := 8) scLw.nd rfl (Or.inl rfl) (by exact (pe_callS GJ r4 rfl gJ kJ bJ (fun σ => passAt tk σ) (by exact (pa_cons (pv 5) (pa_cons (pv 2) (pa_cons (pv 3) pa_nil))))))))
        (fun a oe cls d pn hz hf => by
          exact (pss_cons (ps_if (PW.pt (pw_or (pt_not (pt_val (pe_callB (call_isX hz hf) (by rfl) B.isi btIsi (pa_cons (pv 9) (pa_cons (pe_glob (v := .ref CS) (by rfl) TS.gC rfl) pa_nil)))))
              (pw_or (pt_not (pt_val (pe_callB (call_isX hz hf) (by rfl) B.isi btIsi (pa_cons (pv 9) (pa_cons (pe_bltn (v := .ty "ValueError") (by rfl) B.ve btVE rfl) pa_nil)))))
              (pw_or1 (pt_val (pe_callB (call_isX hz hf) (by rfl) B.isi btIsi (pa_cons (pv 9) (pa_cons (pe_glob (v := .ref CA) (by rfl) TA.gC rfl) pa_nil)))))))) (pss_one (ps_ret pe_bl)) pss_nil)
            (pss_one (ps_ret (pe_cmpR op_eq (pe_callB (call_reprT rfl hu) (by rfl) B.repr btRepr (pa_cons (pe_tup (pa_cons (pe_xf (xf_of (is_of TS)) TS.noN hz hf (pv 9)) (pa_cons (pe_xf (xf_of (is_of TS)) TS.noR hz hf (pv 9)) pa_nil))) pa_nil))
              (pe_callB (call_reprT rfl hu) (by rfl) B.repr btRepr (pa_cons (pv 7) pa_nil)) (nomark _)))))))
      (pss_one (ps_ret (pe_and (pe_callB call_isi (by rfl) B.isi btIsi (pa_cons (pv 8) (pa_cons (pe_bltn (v := .ty "int") (by rfl) B.int btInt rfl) pa_nil)))
        (pe_and (pe_not (pe_callB call_isi (by rfl) B.isi btIsi (pa_cons (pv 8) (pa_cons (pe_bltn (v := .ty "bool") (by rfl) B.bool btBool rfl) pa_nil)))) (pe_one (pe_cmpR op_eq (pv 8) (pv 7) (nomark _)))))))))))))))), ?_⟩
    refine ⟨_, rfl, a, ns, rfl, hS, hl, fun p u H1 hp0 hu0 S1 _ => ?_⟩
    refine share2 (C := fun (b : Int) H' => 0 ≤ b ∧ b ≤ 40 ∧ StAt H' p u) (fun rest => ⟨_, rfl, p, u, 3, rfl, S1, by decide, by decide, fun n H2 _ _ S2 _ => ⟨rfl, _, rfl, iteD (fun _ => ⟨_, rfl, p, u, 41, rfl, S2, by decide, by decide, fun b H3 b0 b1 S3 _ => rest b H3 ⟨b0, by omega, S3⟩⟩)
      (fun _ => ⟨_, rfl, p, u, 9, rfl, S2, by decide, by decide, fun b H3 b0 b1 S3 _ => rest b H3 ⟨b0, by omega, S3⟩⟩)⟩⟩) (fun beats H3 ⟨b0, b1, S3⟩ => ?_)
    refine ⟨_, rfl, p, u, 9, rfl, S3, by decide, by decide, fun slots H4 l0 l1 S4 _ => ?_⟩
    refine ⟨_, rfl, _, rfl, _, rfl, p, u, beats, slots, rfl, S4, b0, b1, by omega, fun l xs H5 hl0 hl5 hT hx S5 _ => ?_⟩
    have nlp : l ≠ p := Ne.symm (S4.neN hl0).1
    refine ⟨_, rfl, l, xs, rfl, .inl ⟨SqL.of hl5, fun t ht => ?_⟩⟩
    have ntp : t ≠ p := Ne.symm (S5.neN ht).1
    have S6 := S5.up (o := .tup xs) ht
    obtain ⟨rs, hrs⟩ := rows_of (H := upd H5 t (.tup xs)) (xs := xs) fun v hv => by
      obtain ⟨ys, hy⟩ := hT v hv
      exact ⟨_, hy.same (upd_sm ht)⟩
    refine share2 (C := fun (v : V) H' => ∃ sc, SchedAt H' v sc ∧ v ≠ .ref p ∧ StAt H' p u) (fun rest => ⟨_, rfl, p, u, 3, rfl, S6, by decide, by decide, fun n H7 _ _ S7 B7 => ⟨rfl, _, rfl, iteD
      (fun _ => ⟨_, rfl, _, rfl, p, u, l, xs, rfl, S7, B7 _ _ nlp (upd_sm ht _ _ hl5), nlp, (hT.kt (KT.up ht)).kt (KT.but S6 B7), hx, fun v sc H8 h8 nv S8 _ => rest v H8 ⟨sc, h8, nv, S8⟩⟩)
      (fun _ => rest (.ref t) H7 ⟨some rs, SchedAt.but (H := upd H5 t (.tup xs)) ⟨t, xs, rfl, upd_same, hrs, (by have := Paired.length hrs; omega)⟩ S6 B7 (fun e => ntp (V.ref.inj e)), fun e => ntp (V.ref.inj e), S7⟩)⟩⟩) (fun sv H7 ⟨sc, hSc, nv, S7⟩ => ?_)
    refine ⟨_, rfl, (by show 1 ≤ sizeLine; decide), fun q hq => ⟨(by show 6 ≤ sizeLine; decide), fun L hL => ?_⟩⟩
    have S8 := (S7.up (o := .tup [.int 2]) hq).up (o := .lst [V.int (-1), .int 41, .non, .bl true, .str "3", .ref q]) hL
    have nLp : L ≠ p := Ne.symm ((S7.up (o := .tup [.int 2]) hq).neN hL).1
    have h8 := hSc.same ((upd_sm (o := .tup [.int 2]) hq).trans (upd_sm (o := .lst [V.int (-1), .int 41, .non, .bl true, .str "3", .ref q]) hL))
    refine ⟨_, rfl, p, u, 6, rfl, S8, by decide, by decide, fun n H9 n0 n1 S9 B9 => ?_⟩
    have hz : ∃ z, atI [V.int (-1), .int 41, .non, .bl true, .str "3", .ref q] n = some z ∧ WrongAt (upd (upd H7 q (.tup [.int 2])) L (.lst [V.int (-1), .int 41, .non, .bl true, .str "3", .ref q])) z := pick6 n0 n1 (upd_sm hL _ _ upd_same)
    obtain ⟨z, hz, hw⟩ := hz
    have hw9 := hw.kt (KT.but S8 B9)
    have h9 := h8.but S8 B9 nv
    refine ⟨L, _, _, z, rfl, rfl, SqL.of (B9 _ _ nLp upd_same), hz, ?_⟩
    refine ⟨_, rfl, _, rfl, _, rfl, sv, z, z, sc, "beats", rfl, h9, hw9.ty, hw9.ty, .inl ⟨hw9.2.1, rfl⟩, fun H10 s10 => ⟨_, rfl, iteF ?_⟩⟩
    refine ⟨_, rfl, _, rfl, _, rfl, _, rfl, (by show 3 ≤ sizeLine; decide), fun L2 hL2 => ?_⟩
    have S11 := (S9.same s10).up (o := .lst [z, .int 9, .int (-1)]) hL2
    have nL2 : L2 ≠ p := Ne.symm ((S9.same s10).neN hL2).1
    refine ⟨_, rfl, p, u, 3, rfl, S11, by decide, by decide, fun n2 H12 m0 m1 S12 B12 => ?_⟩
    obtain ⟨y, hy, ty, oy⟩ := pick3 m0 m1 ((hw9.kt (KT.of (s10.trans (upd_sm (o := .lst [z, .int 9, .int (-1)]) hL2)))).kt (KT.but S11 B12))
    have h12 := (h9.same (s10.trans (upd_sm (o := .lst [z, .int 9, .int (-1)]) hL2))).but S11 B12 nv
    refine ⟨L2, _, _, y, rfl, rfl, SqL.of (B12 _ _ nL2 upd_same), hy, sv, .int beats, y, sc, "slots", rfl, h12, .inl rfl, ty, .inr ⟨okNum_of b0 b1, oy, rfl⟩, fun H13 s13 => ⟨_, rfl, iteF ?_⟩⟩
    have h13 := h12.same s13
    refine ⟨_, rfl, _, rfl, _, rfl, sv, beats, slots, sc, rfl, h13, b0, b1, ?_⟩
    have oB : ∀ {T : Prop}, okNum 40 (V.int beats) = false → T := fun e => by rw [okNum_of b0 b1] at e; cases e
    have oS : ∀ {T : Prop}, okNum 8 (V.int slots) = false → T := fun e => by rw [okNum_of (hi := 8) l0 (by omega)] at e; cases e
    cases hj : judgeF beats slots sc with
    | val c =>
      intro H14 s14
      refine ⟨_, rfl, _, rfl, _, rfl, sv, .int beats, .int slots, sc, rfl, h13.same s14, .inl rfl, .inl rfl, fun e => oB e, fun _ e => oS e, fun b' s' e1 e2 _ _ _ _ => ?_⟩
      cases e1
      cases e2
      rw [hj]
      intro H15 s15
      obtain ⟨n3, hty, e1, e2, _⟩ := ty_of (K := K) (H := H15) (v := .int c) (.inl rfl)
      refine ⟨_, rfl, _, _, _, _, _, rfl, .ty "int", hty, kit_ty e1, _, rfl, iteT ⟨_, rfl, _, _, _, _, _, rfl, .ty "bool", hty, kit_ty e2, _, rfl, ⟨_, rfl, iteT ⟨_, rfl, _, rfl, rfl, ?_⟩⟩⟩⟩
      rw [decide_eq_true rfl]
      exact k _
    | sch j zz =>
      intro p2 H14 hp2 s14 e14
      refine ⟨_, rfl, _, rfl, _, rfl, sv, .int beats, .int slots, sc, rfl, h13.same s14, .inl rfl, .inl rfl, fun e => oB e, fun _ e => oS e, fun b' s' e1 e2 _ _ _ _ => ?_⟩
      cases e1
      cases e2
      rw [hj]
      intro d H15 hd s15 e15
      refine ⟨true, xM, fun _ a2 ha2 => ?_, fun q => Bool.noConfusion q⟩
      obtain ⟨j0, j1, hzz⟩ := judgeF_in hj (sched_len h13)
      obtain ⟨q1, q2, q3⟩ := repr_ready j0 j1 hzz
      refine ⟨_, rfl, CS, d, _, .ref CS, .ref CS, true, rfl, rfl, rfl, is_of TS, e15, (fun u r => r), i1, _, rfl, iteF ?_⟩
      refine ⟨_, rfl, CS, d, _, .ty "ValueError", .type "ValueError", true, rfl, rfl, rfl, is_of TS, e15, (fun u r => r), i2, _, rfl, iteF ?_⟩
      refine ⟨_, rfl, CS, d, _, .ref CA, .ref CA, false, rfl, rfl, rfl, is_of TS, e15, (fun u r => r), i3, _, rfl, iteF ?_⟩
      refine ⟨_, rfl, rfl, rfl, d, _, .int j, rfl, e15, rfl, _, rfl, rfl, rfl, d, _, .str zz, rfl, e15, rfl, (by show 2 ≤ sizeLine; decide), fun r hr2 => ?_⟩
      refine ⟨r, j, zz, rfl, SqT.of upd_same, q1, q2, q3, _, rfl, p2, j, zz, rfl, SqT.of (upd_sm hr2 _ _ (s15 _ _ e14)), q1, q2, q3, rfl, ?_⟩
      rw [decide_eq_true rfl]
      exact k _
end
end L2.Kt

/-! # What the top has written, and the end -/
namespace L2.Kt
open PySem PySem.Spec PyProof.Rows PySem.KtX
theorem kit_ve {K : PySem.W.Frag} {C : Addr} (h : PySem.W.subIn K (.ref C) (.type "ValueError") = some true) : PySem.W.kitOne K (.ref C) (.type "ValueError") = some true := by
  have e1 : ¬ ((Value.ref C == Value.type "ValueError") = true) := by
    intro z
    exact nomatch (beq_iff_eq.mp z)
  unfold PySem.W.kitOne
  rw [if_neg e1]
  show (if PySem.W.kitMeta "ValueError" = true then PySem.W.subIn K (.ref C) (.type "ValueError") else none) = some true
  rw [if_pos (by decide +kernel)]
  exact h
theorem kit_no {K : PySem.W.Frag} {C D : Addr} (h : PySem.W.subIn K (.ref C) (.ref D) = some false) (h2 : PySem.W.subIn K (.ref D) (.ref D) = some true) (hd : PySem.W.isClsIn K D = true) (ht : PySem.W.typeIn K (.ref D) = some (.type "type")) : PySem.W.kitOne K (.ref C) (.ref D) = some false := by
  have e1 : ¬ ((Value.ref C == Value.ref D) = true) := by
    intro z
    have e := beq_iff_eq.mp z
    rw [e, h2] at h
    cases h
  unfold PySem.W.kitOne
  rw [if_neg e1]
  show (if ((PySem.W.clsIn K D).isSome && PySem.W.typeIn K (.ref D) == some (.type "type")) = true then PySem.W.subIn K (.ref C) (.ref D) else none) = some false
  have e2 : ((PySem.W.clsIn K D).isSome && PySem.W.typeIn K (.ref D) == some (.type "type")) = true := by
    have hd' : (PySem.W.clsIn K D).isSome = true := hd
    rw [hd', ht] <;> rfl
  rw [if_pos e2]
  exact h

theorem all_mk {P : Program} {w : World} {K : PySem.W.Frag} {h : Heap} {mg : Str → Option Value} {fa CM CA CS CJ f1 f2 f3 f4 f5 f6 f7 f8 f9 f10 f11 f12 f13 f14 f15 f16 f17 f18 : Addr} (X : K.In h) (G : h.Ns mainGlobals mg) (hfa : mg "law" = some (.ref fa))
    {nmA qA : Str} {NA fEA ccA cdaA : Addr} {bsA : List Value} {snA : List Str} {subA : List Value} {abA : Bool} {colA : Option Bool} {ddA : Option Addr} {m0A m1A m2A m3A m5A : Option Value}
    {ocA : Value} {odA : Option Addr} {docA pmA : Value} {anA : Option Addr} {ctA : Value} {oslA : Array (Option Value)}
    {v1A : Value} {v2A : Option Addr} {v3A : Array (Option Value)}
    {w1A : Value} {w2A : Option Addr} {vsA : Array Value} {w3A : Array (Option Value)} {fileA : Str} {tfA : Tok}
    {nmS qS : Str} {NS fES ccS cdaS : Addr} {bsS : List Value} {snS : List Str} {subS : List Value} {abS : Bool} {colS : Option Bool} {ddS : Option Addr} {m0S m1S m2S m3S m5S : Option Value}
    {ocS : Value} {odS : Option Addr} {docS pmS : Value} {anS : Option Addr} {ctS : Value} {oslS : Array (Option Value)}
    {v1S : Value} {v2S : Option Addr} {v3S : Array (Option Value)}
    {w1S : Value} {w2S : Option Addr} {vsS : Array Value} {w3S : Array (Option Value)} {fileS : Str} {tfS : Tok}
    {tb tk : Tok}
    {oc1 kV1 dc1 pm1 cd1 ct1 : Value} {od1 an1 : Option Addr} {sl1 : Array (Option Value)}
    {oc2 kV2 dc2 pm2 cd2 ct2 : Value} {od2 an2 : Option Addr} {sl2 : Array (Option Value)}
    {oc3 kV3 dc3 pm3 cd3 ct3 : Value} {od3 an3 : Option Addr} {sl3 : Array (Option Value)}
    {oc4 kV4 dc4 pm4 cd4 ct4 : Value} {od4 an4 : Option Addr} {sl4 : Array (Option Value)}
    {oc5 kV5 dc5 pm5 cd5 ct5 : Value} {od5 an5 : Option Addr} {sl5 : Array (Option Value)}
    {oc6 kV6 dc6 pm6 cd6 ct6 : Value} {od6 an6 : Option Addr} {sl6 : Array (Option Value)}
    {oc7 kV7 dc7 pm7 cd7 ct7 : Value} {od7 an7 : Option Addr} {sl7 : Array (Option Value)}
    {oc8 kV8 dc8 pm8 cd8 ct8 : Value} {od8 an8 : Option Addr} {sl8 : Array (Option Value)}
    {oc9 kV9 dc9 pm9 cd9 ct9 : Value} {od9 an9 : Option Addr} {sl9 : Array (Option Value)}
    {oc10 kV10 dc10 pm10 cd10 ct10 : Value} {od10 an10 : Option Addr} {sl10 : Array (Option Value)}
    {oc11 kV11 dc11 pm11 cd11 ct11 : Value} {od11 an11 : Option Addr} {sl11 : Array (Option Value)}
    {oc12 kV12 dc12 pm12 cd12 ct12 : Value} {od12 an12 : Option Addr} {sl12 : Array (Option Value)}
    {oc13 kV13 dc13 pm13 cd13 ct13 : Value} {od13 an13 : Option Addr} {sl13 : Array (Option Value)}
    {oc14 kV14 dc14 pm14 cd14 ct14 : Value} {od14 an14 : Option Addr} {sl14 : Array (Option Value)}
    {oc15 kV15 dc15 pm15 cd15 ct15 : Value} {od15 an15 : Option Addr} {sl15 : Array (Option Value)}
    {oc16 kV16 dc16 pm16 cd16 ct16 : Value} {od16 an16 : Option Addr} {sl16 : Array (Option Value)}
    {oc17 kV17 dc17 pm17 cd17 ct17 : Value} {od17 an17 : Option Addr} {sl17 : Array (Option Value)}
    {oc18 kV18 dc18 pm18 cd18 ct18 : Value} {od18 an18 : Option Addr} {sl18 : Array (Option Value)}
    (gM : PySem.W.nsIn K mainGlobals "CountermarchError" = some (some (.ref CM)))
    (mB : PySem.W.subIn K (.ref CM) (.type "BaseException") = some true)
    (mD : PySem.W.hasDictIn K CM = true)
    (mT : PySem.W.typeIn K (.ref CM) = some (.type "type"))
    (gA : PySem.W.nsIn K mainGlobals "ArgumentError" = some (some (.ref CA)))
    (xlA : K.lookup CA = some (excClassObj nmA qA CA NA bsA [.ref CM, .type "ValueError", .type "Exception", .type "BaseException", .type "object"] true snA subA abA colA ddA m0A m1A m2A m3A m5A "ValueError.__new__"))
    (saA : PySem.W.findIn K (.ref CA) "__setattr__" = some (some (.builtin "object.__setattr__")))
    (gaA : PySem.W.findIn K (.ref CA) "__getattribute__" = some (some (.builtin "BaseException.__getattribute__")))
    (ggA : PySem.W.findIn K (.ref CA) "__getattr__" = some none)
    (nrA : PySem.W.findIn K (.ref CA) "reason" = some none)
    (nnA : PySem.W.findIn K (.ref CA) "number" = some none)
    (icA : PySem.W.findIn K (.ref CA) "__init__" = some (some (.ref fEA)))
    (tcA : PySem.W.typeIn K (.ref fEA) = some (.type "function"))
    (kcA : PySem.W.keepIn K (.ref CA) = true)
    (exA : PySem.W.subIn K (.ref CA) (.type "BaseException") = some true)
    (veA : PySem.W.subIn K (.ref CA) (.type "ValueError") = some true)
    (tyA : PySem.W.typeIn K (.ref CA) = some (.type "type"))
    (hdA : PySem.W.hasDictIn K CA = true)
    (upA : PySem.W.ks_superIn K CA CA "__init__" = some (some (.builtin "ValueError.__init__")))
    (seA : PySem.W.mroIn K CA (.ref CA) = some true)
    (obA : PySem.W.mroIn K CA (.type "object") = some true)
    (clA : PySem.W.findIn K (.ref CA) "__class__" = some (some (.builtin "object.__class__")))
    (fnA : K.lookup fEA = some ⟨ocA, odA, .func (PySem.W.ksFn "__init__" "ArgumentError.__init__" (defArgs sInitA) (defBody sInitA) (defScope sInitA) .none .none docA pmA anA (.ref cdaA) ctA ccA), oslA⟩)
    (cdA : PySem.W.codeIn K (.ref cdaA) "ArgumentError.__init__" = true)
    (ceA : K.lookup ccA = some ⟨v1A, v2A, .cell (some (.ref CA)), v3A⟩)
    (coA : K.lookup cdaA = some ⟨w1A, w2A, .fields vsA, w3A⟩)
    (cfA : vsA[2]? = some (.str fileA tfA))
    (cgA : ((P.main.file : Str) == fileA) = true)
    (gS : PySem.W.nsIn K mainGlobals "ScheduleError" = some (some (.ref CS)))
    (xlS : K.lookup CS = some (excClassObj nmS qS CS NS bsS [.ref CM, .type "ValueError", .type "Exception", .type "BaseException", .type "object"] true snS subS abS colS ddS m0S m1S m2S m3S m5S "ValueError.__new__"))
    (saS : PySem.W.findIn K (.ref CS) "__setattr__" = some (some (.builtin "object.__setattr__")))
    (gaS : PySem.W.findIn K (.ref CS) "__getattribute__" = some (some (.builtin "BaseException.__getattribute__")))
    (ggS : PySem.W.findIn K (.ref CS) "__getattr__" = some none)
    (nrS : PySem.W.findIn K (.ref CS) "reason" = some none)
    (nnS : PySem.W.findIn K (.ref CS) "number" = some none)
    (icS : PySem.W.findIn K (.ref CS) "__init__" = some (some (.ref fES)))
    (tcS : PySem.W.typeIn K (.ref fES) = some (.type "function"))
    (kcS : PySem.W.keepIn K (.ref CS) = true)
    (exS : PySem.W.subIn K (.ref CS) (.type "BaseException") = some true)
    (veS : PySem.W.subIn K (.ref CS) (.type "ValueError") = some true)
    (tyS : PySem.W.typeIn K (.ref CS) = some (.type "type"))
    (hdS : PySem.W.hasDictIn K CS = true)
    (upS : PySem.W.ks_superIn K CS CS "__init__" = some (some (.builtin "ValueError.__init__")))
    (seS : PySem.W.mroIn K CS (.ref CS) = some true)
    (obS : PySem.W.mroIn K CS (.type "object") = some true)
    (clS : PySem.W.findIn K (.ref CS) "__class__" = some (some (.builtin "object.__class__")))
    (fnS : K.lookup fES = some ⟨ocS, odS, .func (PySem.W.ksFn "__init__" "ScheduleError.__init__" (defArgs sInitS) (defBody sInitS) (defScope sInitS) .none .none docS pmS anS (.ref cdaS) ctS ccS), oslS⟩)
    (cdS : PySem.W.codeIn K (.ref cdaS) "ScheduleError.__init__" = true)
    (ceS : K.lookup ccS = some ⟨v1S, v2S, .cell (some (.ref CS)), v3S⟩)
    (coS : K.lookup cdaS = some ⟨w1S, w2S, .fields vsS, w3S⟩)
    (cfS : vsS[2]? = some (.str fileS tfS))
    (cgS : ((P.main.file : Str) == fileS) = true)
    (sAA : PySem.W.subIn K (.ref CA) (.ref CA) = some true)
    (sSA : PySem.W.subIn K (.ref CS) (.ref CA) = some false)
    (sSM : PySem.W.subIn K (.ref CS) (.ref CM) = some true)
    (iAc : PySem.W.isClsIn K CA = true)
    (any_ : PySem.W.nsIn K cStatics "thirdparty.any" = some none)
    (cG : PySem.W.specialIn K (.builtin "object.__class__") "__get__" = some (some (.builtin "getset_descriptor.__get__")))
    (cT : PySem.W.takesIn K (.builtin "object.__class__") = some true)
    (zsup : PySem.W.nsIn K mainGlobals "super" = some none)
    (ztop : (P.main.scope.names.lookup ("super" : Str)).isSome = false)
    (gB : PySem.W.nsIn K mainGlobals "MAX_BEATS" = some (some (.int 40 tb)))
    (gK : PySem.W.nsIn K mainGlobals "MAX_KEPT" = some (some (.int 8 tk)))
    (z_isinstance : PySem.W.nsIn K mainGlobals "isinstance" = some none)
    (z_int : PySem.W.nsIn K mainGlobals "int" = some none)
    (z_bool : PySem.W.nsIn K mainGlobals "bool" = some none)
    (z_tuple : PySem.W.nsIn K mainGlobals "tuple" = some none)
    (z_str : PySem.W.nsIn K mainGlobals "str" = some none)
    (z_len : PySem.W.nsIn K mainGlobals "len" = some none)
    (z_list : PySem.W.nsIn K mainGlobals "list" = some none)
    (z_abs : PySem.W.nsIn K mainGlobals "abs" = some none)
    (z_max : PySem.W.nsIn K mainGlobals "max" = some none)
    (z_repr : PySem.W.nsIn K mainGlobals "repr" = some none)
    (z_range : PySem.W.nsIn K mainGlobals "range" = some none)
    (z_enumerate : PySem.W.nsIn K mainGlobals "enumerate" = some none)
    (z_ValueError : PySem.W.nsIn K mainGlobals "ValueError" = some none)
    (gJ : PySem.W.nsIn K mainGlobals "Judging" = some (some (.ref CJ)))
    (jpg : PySem.W.plainGet K CJ Str.empty = true)
    (jhd : PySem.W.hasDictIn K CJ = true)
    (jpo : PySem.W.plainOver K CJ = true)
    (jsa : PySem.W.findIn K (.ref CJ) "__setattr__" = some (some (.builtin "object.__setattr__")))
    (jmk : PySem.W.makesIn K CJ = true)
    (jkc : PySem.W.keepIn K (.ref CJ) = true)
    (jfront : PySem.W.findIn K (.ref CJ) "front" = some none)
    (jslots : PySem.W.findIn K (.ref CJ) "slots" = some none)
    (jposition : PySem.W.findIn K (.ref CJ) "position" = some none)
    (jfull : PySem.W.findIn K (.ref CJ) "full" = some none)
    (jcost : PySem.W.findIn K (.ref CJ) "cost" = some none)
    (a1 : PySem.W.nsIn K mainGlobals "is_integer" = some (some (.ref f1)))
    (l1 : K.lookup f1 = some ⟨oc1, od1, .func (PySem.W.fnOf "is_integer" "is_integer" (defArgs sIsInt) (defBody sIsInt) (defScope sIsInt) .none kV1 dc1 pm1 an1 cd1 ct1), sl1⟩)
    (c1 : PySem.W.codeIn K cd1 "is_integer" = true)
    (k1 : PySem.W.keepIn K (.ref f1) = true)
    (a2 : PySem.W.nsIn K mainGlobals "demand_counts" = some (some (.ref f2)))
    (l2 : K.lookup f2 = some ⟨oc2, od2, .func (PySem.W.fnOf "demand_counts" "demand_counts" (defArgs sDemand) (defBody sDemand) (defScope sDemand) .none kV2 dc2 pm2 an2 cd2 ct2), sl2⟩)
    (c2 : PySem.W.codeIn K cd2 "demand_counts" = true)
    (k2 : PySem.W.keepIn K (.ref f2) = true)
    (a3 : PySem.W.nsIn K mainGlobals "is_action" = some (some (.ref f3)))
    (l3 : K.lookup f3 = some ⟨oc3, od3, .func (PySem.W.fnOf "is_action" "is_action" (defArgs sIsAct) (defBody sIsAct) (defScope sIsAct) .none kV3 dc3 pm3 an3 cd3 ct3), sl3⟩)
    (c3 : PySem.W.codeIn K cd3 "is_action" = true)
    (k3 : PySem.W.keepIn K (.ref f3) = true)
    (a4 : PySem.W.findIn K (.ref CJ) "__init__" = some (some (.ref f4)))
    (i4 : PySem.W.isFn K (.ref f4) = true)
    (l4 : K.lookup f4 = some ⟨oc4, od4, .func (PySem.W.fnOf "__init__" "Judging.__init__" (defArgs sJInit) (defBody sJInit) (defScope sJInit) .none kV4 dc4 pm4 an4 cd4 ct4), sl4⟩)
    (c4 : PySem.W.codeIn K cd4 "Judging.__init__" = true)
    (k4 : PySem.W.keepIn K (.ref f4) = true)
    (a5 : PySem.W.findIn K (.ref CJ) "reason" = some (some (.ref f5)))
    (i5 : PySem.W.isFn K (.ref f5) = true)
    (l5 : K.lookup f5 = some ⟨oc5, od5, .func (PySem.W.fnOf "reason" "Judging.reason" (defArgs sJReason) (defBody sJReason) (defScope sJReason) .none kV5 dc5 pm5 an5 cd5 ct5), sl5⟩)
    (c5 : PySem.W.codeIn K cd5 "Judging.reason" = true)
    (k5 : PySem.W.keepIn K (.ref f5) = true)
    (a6 : PySem.W.findIn K (.ref CJ) "perform" = some (some (.ref f6)))
    (i6 : PySem.W.isFn K (.ref f6) = true)
    (l6 : K.lookup f6 = some ⟨oc6, od6, .func (PySem.W.fnOf "perform" "Judging.perform" (defArgs sJPerform) (defBody sJPerform) (defScope sJPerform) .none kV6 dc6 pm6 an6 cd6 ct6), sl6⟩)
    (c6 : PySem.W.codeIn K cd6 "Judging.perform" = true)
    (k6 : PySem.W.keepIn K (.ref f6) = true)
    (a7 : PySem.W.nsIn K mainGlobals "judge" = some (some (.ref f7)))
    (l7 : K.lookup f7 = some ⟨oc7, od7, .func (PySem.W.fnOf "judge" "judge" (defArgs sJudge) (defBody sJudge) (defScope sJudge) .none kV7 dc7 pm7 an7 cd7 ct7), sl7⟩)
    (c7 : PySem.W.codeIn K cd7 "judge" = true)
    (k7 : PySem.W.keepIn K (.ref f7) = true)
    (a8 : PySem.W.nsIn K mainGlobals "_law_start" = some (some (.ref f8)))
    (l8 : K.lookup f8 = some ⟨oc8, od8, .func (PySem.W.fnOf "_law_start" "_law_start" (defArgs sStart) (defBody sStart) (defScope sStart) .none kV8 dc8 pm8 an8 cd8 ct8), sl8⟩)
    (c8 : PySem.W.codeIn K cd8 "_law_start" = true)
    (k8 : PySem.W.keepIn K (.ref f8) = true)
    (a9 : PySem.W.nsIn K mainGlobals "_law_draw" = some (some (.ref f9)))
    (l9 : K.lookup f9 = some ⟨oc9, od9, .func (PySem.W.fnOf "_law_draw" "_law_draw" (defArgs sDraw) (defBody sDraw) (defScope sDraw) .none kV9 dc9 pm9 an9 cd9 ct9), sl9⟩)
    (c9 : PySem.W.codeIn K cd9 "_law_draw" = true)
    (k9 : PySem.W.keepIn K (.ref f9) = true)
    (a10 : PySem.W.nsIn K mainGlobals "_law_integer" = some (some (.ref f10)))
    (l10 : K.lookup f10 = some ⟨oc10, od10, .func (PySem.W.fnOf "_law_integer" "_law_integer" (defArgs sLInt) (defBody sLInt) (defScope sLInt) .none kV10 dc10 pm10 an10 cd10 ct10), sl10⟩)
    (c10 : PySem.W.codeIn K cd10 "_law_integer" = true)
    (k10 : PySem.W.keepIn K (.ref f10) = true)
    (a11 : PySem.W.nsIn K mainGlobals "_law_action" = some (some (.ref f11)))
    (l11 : K.lookup f11 = some ⟨oc11, od11, .func (PySem.W.fnOf "_law_action" "_law_action" (defArgs sLAct) (defBody sLAct) (defScope sLAct) .none kV11 dc11 pm11 an11 cd11 ct11), sl11⟩)
    (c11 : PySem.W.codeIn K cd11 "_law_action" = true)
    (k11 : PySem.W.keepIn K (.ref f11) = true)
    (a12 : PySem.W.nsIn K mainGlobals "_law_reason" = some (some (.ref f12)))
    (l12 : K.lookup f12 = some ⟨oc12, od12, .func (PySem.W.fnOf "_law_reason" "_law_reason" (defArgs sLReason) (defBody sLReason) (defScope sLReason) .none kV12 dc12 pm12 an12 cd12 ct12), sl12⟩)
    (c12 : PySem.W.codeIn K cd12 "_law_reason" = true)
    (k12 : PySem.W.keepIn K (.ref f12) = true)
    (a13 : PySem.W.nsIn K mainGlobals "_law_judge" = some (some (.ref f13)))
    (l13 : K.lookup f13 = some ⟨oc13, od13, .func (PySem.W.fnOf "_law_judge" "_law_judge" (defArgs sLJudge) (defBody sLJudge) (defScope sLJudge) .none kV13 dc13 pm13 an13 cd13 ct13), sl13⟩)
    (c13 : PySem.W.codeIn K cd13 "_law_judge" = true)
    (k13 : PySem.W.keepIn K (.ref f13) = true)
    (a14 : PySem.W.nsIn K mainGlobals "_law_next" = some (some (.ref f14)))
    (l14 : K.lookup f14 = some ⟨oc14, od14, .func (PySem.W.fnOf "_law_next" "_law_next" (defArgs sNext) (defBody sNext) (defScope sNext) .none kV14 dc14 pm14 an14 cd14 ct14), sl14⟩)
    (c14 : PySem.W.codeIn K cd14 "_law_next" = true)
    (k14 : PySem.W.keepIn K (.ref f14) = true)
    (a15 : PySem.W.nsIn K mainGlobals "_law_made" = some (some (.ref f15)))
    (l15 : K.lookup f15 = some ⟨oc15, od15, .func (PySem.W.fnOf "_law_made" "_law_made" (defArgs sMade) (defBody sMade) (defScope sMade) .none kV15 dc15 pm15 an15 cd15 ct15), sl15⟩)
    (c15 : PySem.W.codeIn K cd15 "_law_made" = true)
    (k15 : PySem.W.keepIn K (.ref f15) = true)
    (a16 : PySem.W.nsIn K mainGlobals "_law_spoilt" = some (some (.ref f16)))
    (l16 : K.lookup f16 = some ⟨oc16, od16, .func (PySem.W.fnOf "_law_spoilt" "_law_spoilt" (defArgs sSpoilt) (defBody sSpoilt) (defScope sSpoilt) .none kV16 dc16 pm16 an16 cd16 ct16), sl16⟩)
    (c16 : PySem.W.codeIn K cd16 "_law_spoilt" = true)
    (k16 : PySem.W.keepIn K (.ref f16) = true)
    (a17 : PySem.W.nsIn K mainGlobals "_law_argument" = some (some (.ref f17)))
    (l17 : K.lookup f17 = some ⟨oc17, od17, .func (PySem.W.fnOf "_law_argument" "_law_argument" (defArgs sArg) (defBody sArg) (defScope sArg) .none kV17 dc17 pm17 an17 cd17 ct17), sl17⟩)
    (c17 : PySem.W.codeIn K cd17 "_law_argument" = true)
    (k17 : PySem.W.keepIn K (.ref f17) = true)
    (a18 : PySem.W.nsIn K mainGlobals "law" = some (some (.ref f18)))
    (l18 : K.lookup f18 = some ⟨oc18, od18, .func (PySem.W.fnOf "law" "law" (defArgs sLaw) (defBody sLaw) (defScope sLaw) .none kV18 dc18 pm18 an18 cd18 ct18), sl18⟩)
    (c18 : PySem.W.codeIn K cd18 "law" = true)
    (k18 : PySem.W.keepIn K (.ref f18) = true)
    : ∃ fd : FuncData, (∀ (s : Shared) (u : Value), BindsTo s fd ⟨[u], []⟩ [("_law_script", u)]) ∧ ∀ base : Heap, K.In base → base.Ns mainGlobals mg → FnC P w K mg base fa fd ["_law_script"] (spLaw K) := by
  have e := hfa.symm.trans (PySem.W.mg_of X G a18)
  cases e
  have B : Blt mg := ⟨PySem.W.mg_none_of X G z_isinstance, PySem.W.mg_none_of X G z_int, PySem.W.mg_none_of X G z_bool, PySem.W.mg_none_of X G z_tuple, PySem.W.mg_none_of X G z_str, PySem.W.mg_none_of X G z_len, PySem.W.mg_none_of X G z_list, PySem.W.mg_none_of X G z_abs, PySem.W.mg_none_of X G z_max, PySem.W.mg_none_of X G z_repr, PySem.W.mg_none_of X G z_range, PySem.W.mg_none_of X G z_enumerate, PySem.W.mg_none_of X G z_ValueError⟩
  have TA : ErrTxt P K mg "ArgumentError" "ArgumentError.__init__" sInitA CA fEA ccA cdaA :=
    { gC := PySem.W.mg_of X G gA, cls := ⟨nmA, qA, NA, bsA, _, snA, subA, abA, colA, ddA, m0A, m1A, m2A, m3A, m5A, xlA, by show (PySem.HandSPX.refsVE [.type "ValueError", .type "Exception", .type "BaseException", .type "object"]) = true; decide +kernel⟩,
      sa := saA, ga := gaA, gg := ggA, noR := nrA, noN := nnA, iC := icA, tC := tcA, kC := kcA, exC := exA, veC := veA, tyC := tyA, hdC := hdA, up := upA, any := any_, selfC := seA, obC := obA, sup := PySem.W.mg_none_of X G zsup, clC := clA, clG := cG, clT := cT,
      cell := ⟨_, _, _, ceA⟩, code := ⟨_, _, _, _, _, _, coA, cfA, cgA⟩, top := ztop, fn := ⟨_, _, _, _, _, _, _, fnA, cdA⟩ }
  have TS : ErrTxt P K mg "ScheduleError" "ScheduleError.__init__" sInitS CS fES ccS cdaS :=
    { gC := PySem.W.mg_of X G gS, cls := ⟨nmS, qS, NS, bsS, _, snS, subS, abS, colS, ddS, m0S, m1S, m2S, m3S, m5S, xlS, by show (PySem.HandSPX.refsVE [.type "ValueError", .type "Exception", .type "BaseException", .type "object"]) = true; decide +kernel⟩,
      sa := saS, ga := gaS, gg := ggS, noR := nrS, noN := nnS, iC := icS, tC := tcS, kC := kcS, exC := exS, veC := veS, tyC := tyS, hdC := hdS, up := upS, any := any_, selfC := seS, obC := obS, sup := PySem.W.mg_none_of X G zsup, clC := clS, clG := cG, clT := cT,
      cell := ⟨_, _, _, ceS⟩, code := ⟨_, _, _, _, _, _, coS, cfS, cgS⟩, top := ztop, fn := ⟨_, _, _, _, _, _, _, fnS, cdS⟩ }
  have TJ : JTxt K CJ := ⟨⟨jpg, jhd, jpo, jsa⟩, jfront, jslots, jposition, jfull, jcost⟩
  have F1 := fun_mk (st := sIsInt) l1 c1 k1
  have b1 := F1.binds (ps := ["value"]) fun _ _ _ _ _ _ us hl => match us, hl with | [_], _ => rfl
  have g1 := PySem.W.mg_of X G a1
  have F2 := fun_mk (st := sDemand) l2 c2 k2
  have b2 := F2.binds (ps := ["beats", "slots"]) fun _ _ _ _ _ _ us hl => match us, hl with | [_, _], _ => rfl
  have g2 := PySem.W.mg_of X G a2
  have F3 := fun_mk (st := sIsAct) l3 c3 k3
  have b3 := F3.binds (ps := ["action"]) fun _ _ _ _ _ _ us hl => match us, hl with | [_], _ => rfl
  have g3 := PySem.W.mg_of X G a3
  have F4 := fun_mk (st := sJInit) l4 c4 k4
  have b4 := F4.binds (ps := ["self", "beats", "slots"]) fun _ _ _ _ _ _ us hl => match us, hl with | [_, _, _], _ => rfl
  have F5 := fun_mk (st := sJReason) l5 c5 k5
  have b5 := F5.binds (ps := ["self", "action"]) fun _ _ _ _ _ _ us hl => match us, hl with | [_, _], _ => rfl
  have F6 := fun_mk (st := sJPerform) l6 c6 k6
  have b6 := F6.binds (ps := ["self", "action"]) fun _ _ _ _ _ _ us hl => match us, hl with | [_, _], _ => rfl
  have F7 := fun_mk (st := sJudge) l7 c7 k7
  have b7 := F7.binds (ps := ["schedule", "beats", "slots"]) fun _ _ _ _ _ _ us hl => match us, hl with | [_, _, _], _ => rfl
  have g7 := PySem.W.mg_of X G a7
  have F8 := fun_mk (st := sStart) l8 c8 k8
  have b8 := F8.binds (ps := ["_law_script"]) fun _ _ _ _ _ _ us hl => match us, hl with | [_], _ => rfl
  have g8 := PySem.W.mg_of X G a8
  have F9 := fun_mk (st := sDraw) l9 c9 k9
  have b9 := F9.binds (ps := ["_law_state", "_law_many"]) fun _ _ _ _ _ _ us hl => match us, hl with | [_, _], _ => rfl
  have g9 := PySem.W.mg_of X G a9
  have F10 := fun_mk (st := sLInt) l10 c10 k10
  have b10 := F10.binds (ps := ["_law_value", "_law_low"]) fun _ _ _ _ _ _ us hl => match us, hl with | [_, _], _ => rfl
  have g10 := PySem.W.mg_of X G a10
  have F11 := fun_mk (st := sLAct) l11 c11 k11
  have b11 := F11.binds (ps := ["_law_action_here"]) fun _ _ _ _ _ _ us hl => match us, hl with | [_], _ => rfl
  have g11 := PySem.W.mg_of X G a11
  have F12 := fun_mk (st := sLReason) l12 c12 k12
  have b12 := F12.binds (ps := psLR) fun _ _ _ _ _ _ us hl => match us, hl with | [_, _, _, _, _], _ => rfl
  have g12 := PySem.W.mg_of X G a12
  have F13 := fun_mk (st := sLJudge) l13 c13 k13
  have b13 := F13.binds (ps := pLJ) fun _ _ _ _ _ _ us hl => match us, hl with | [_, _, _], _ => rfl
  have g13 := PySem.W.mg_of X G a13
  have F14 := fun_mk (st := sNext) l14 c14 k14
  have b14 := F14.binds (ps := pNx) fun _ _ _ _ _ _ us hl => match us, hl with | [_, _, _, _, _], _ => rfl
  have g14 := PySem.W.mg_of X G a14
  have F15 := fun_mk (st := sMade) l15 c15 k15
  have b15 := F15.binds (ps := pMa) fun _ _ _ _ _ _ us hl => match us, hl with | [_, _, _], _ => rfl
  have g15 := PySem.W.mg_of X G a15
  have F16 := fun_mk (st := sSpoilt) l16 c16 k16
  have b16 := F16.binds (ps := pSp) fun _ _ _ _ _ _ us hl => match us, hl with | [_, _], _ => rfl
  have g16 := PySem.W.mg_of X G a16
  have F17 := fun_mk (st := sArg) l17 c17 k17
  have b17 := F17.binds (ps := pAr) fun _ _ _ _ _ _ us hl => match us, hl with | [_, _, _, _], _ => rfl
  have g17 := PySem.W.mg_of X G a17
  have F18 := fun_mk (st := sLaw) l18 c18 k18
  have g18 := PySem.W.mg_of X G a18
  have xA : PySem.W.exmOne K (.ref CA) (.ref CA) = some true := PySem.W.exm_ref exA hdA tyA sAA
  have xM : PySem.W.exmOne K (.ref CS) (.ref CM) = some true := PySem.W.exm_ref mB mD mT sSM
  refine ⟨PySem.W.fnOf "law" "law" (defArgs sLaw) (defBody sLaw) (defScope sLaw) .none kV18 dc18 pm18 an18 cd18 ct18, fun s u => .of_eq rfl, fun base _ _ => ?_⟩
  have GJ : ∀ base : Heap, FnOk P w K mg base (L2.CX P w) 4 f7 _ ["schedule", "beats", "slots"] (spJudge CA CS) := fun base =>
    ok_judge F7 B F2 g2 b2 F1 g1 b1 F3 g3 b3 TA TS (PySem.W.mg_of X G gB) (PySem.W.mg_of X G gK) TJ (PySem.W.mg_of X G gJ) ⟨jmk, a4, i4, jkc⟩ F4 b4 ⟨a5, i5, k5⟩ F5 b5 ⟨a6, i6, k6⟩ F6 b6
  exact ok_law F18 B (ok_start F8 B) g8 k8 b8 (ok_draw F9 B) g9 k9 b9 (ok_made F15 B F9 g9 b9 F14 g14 b14 F12 g12 b12 F11 g11 b11 F10 g10 b10) g15 k15 b15 (ok_spoilt F16 B F9 g9 b9) g16 k16 b16
    (ok_arg F17 GJ g7 k7 b7 TA xA) g17 k17 b17 (ok_ljudge F13 B F12 g12 b12 F11 g11 b11 F10 g10 b10) g13 k13 b13 (GJ base) g7 k7 b7 TA TS (PySem.W.mg_of X G gM) xM (if_pos (beq_self_eq_true _)) (kit_ve veS) (kit_no sSA sAA iAc tyA)
end L2.Kt

/-! # The end -/
open PySem PySem.W PyProof.Rows
set_option maxRecDepth 100000 in
set_option maxHeartbeats 0 in
theorem PySem.Challenge.cw_countermarch_k51_whole_any_schedule_is_j_holds : PySem.Challenge.rw_countermarch_k51_whole_any_schedule_is_j.Holds := by
  w_on; o_law; k_head; (case hw => w_witness2)
  k_fill
  refine L2.Kt.walk_law (l := PySem.Challenge.rw_countermarch_k51_whole_any_schedule_is_j) (n := 63) (x := "_law_script") (sp := fun w => L2.Kt.spLaw _) rfl (by decide) rfl (fun w h Y => PySem.W.kIn_of Y) ?F (fun w H a ns hl hS => ⟨a, ns, rfl, hS, hl, fun _ => rfl⟩)
  case F =>
    intro w mg fa h KX G hmg
    refine' L2.Kt.all_mk KX G hmg ?gM ?mB ?mD ?mT ?gA ?xlA ?saA ?gaA ?ggA ?nrA ?nnA ?icA ?tcA ?kcA ?exA ?veA ?tyA ?hdA ?upA ?seA ?obA ?clA ?fnA ?cdA ?ceA ?coA ?cfA ?cgA ?gS ?xlS ?saS ?gaS ?ggS ?nrS ?nnS ?icS ?tcS ?kcS ?exS ?veS ?tyS ?hdS ?upS ?seS ?obS ?clS ?fnS ?cdS ?ceS ?coS ?cfS ?cgS ?sAA ?sSA ?sSM ?iAc ?any_ ?cG ?cT ?zsup ?ztop ?gB ?gK ?z_isinstance ?z_int ?z_bool ?z_tuple ?z_str ?z_len ?z_list ?z_abs ?z_max ?z_repr ?z_range ?z_enumerate ?z_ValueError ?gJ ?jpg ?jhd ?jpo ?jsa ?jmk ?jkc ?jfront ?jslots ?jposition ?jfull ?jcost ?a1 ?l1 ?c1 ?k1 ?a2 ?l2 ?c2 ?k2 ?a3 ?l3 ?c3 ?k3 ?a4 ?i4 ?l4 ?c4 ?k4 ?a5 ?i5 ?l5 ?c5 ?k5 ?a6 ?i6 ?l6 ?c6 ?k6 ?a7 ?l7 ?c7 ?k7 ?a8 ?l8 ?c8 ?k8 ?a9 ?l9 ?c9 ?k9 ?a10 ?l10 ?c10 ?k10 ?a11 ?l11 ?c11 ?k11 ?a12 ?l12 ?c12 ?k12 ?a13 ?l13 ?c13 ?k13 ?a14 ?l14 ?c14 ?k14 ?a15 ?l15 ?c15 ?k15 ?a16 ?l16 ?c16 ?k16 ?a17 ?l17 ?c17 ?k17 ?a18 ?l18 ?c18 ?k18
    (case gM => k_is)
    (case mB => k_is)
    (case mD => k_is)
    (case mT => k_is)
    (case gA => k_is)
    (case xlA => k_is)
    (case saA => k_is)
    (case gaA => k_is)
    (case ggA => k_is)
    (case nrA => k_is)
    (case nnA => k_is)
    (case icA => k_is)
    (case tcA => k_is)
    (case kcA => k_is)
    (case exA => k_is)
    (case veA => k_is)
    (case tyA => k_is)
    (case hdA => k_is)
    (case upA => ks_is)
    (case seA => k_is)
    (case obA => k_is)
    (case clA => k_is)
    (case fnA => k_is)
    (case cdA => k_is)
    (case ceA => k_is)
    (case coA => k_is)
    (case cfA => exact rfl)
    (case cgA => first | rfl | decide +kernel)
    (case gS => k_is)
    (case xlS => k_is)
    (case saS => k_is)
    (case gaS => k_is)
    (case ggS => k_is)
    (case nrS => k_is)
    (case nnS => k_is)
    (case icS => k_is)
    (case tcS => k_is)
    (case kcS => k_is)
    (case exS => k_is)
    (case veS => k_is)
    (case tyS => k_is)
    (case hdS => k_is)
    (case upS => ks_is)
    (case seS => k_is)
    (case obS => k_is)
    (case clS => k_is)
    (case fnS => k_is)
    (case cdS => k_is)
    (case ceS => k_is)
    (case coS => k_is)
    (case cfS => exact rfl)
    (case cgS => first | rfl | decide +kernel)
    (case sAA => k_is)
    (case sSA => k_is)
    (case sSM => k_is)
    (case iAc => k_is)
    (case any_ => k_is)
    (case cG => k_is)
    (case cT => k_is)
    (case zsup => k_is)
    (case ztop => first | rfl | decide +kernel)
    (case gB => k_is)
    (case gK => k_is)
    (case z_isinstance => k_is)
    (case z_int => k_is)
    (case z_bool => k_is)
    (case z_tuple => k_is)
    (case z_str => k_is)
    (case z_len => k_is)
    (case z_list => k_is)
    (case z_abs => k_is)
    (case z_max => k_is)
    (case z_repr => k_is)
    (case z_range => k_is)
    (case z_enumerate => k_is)
    (case z_ValueError => k_is)
    (case gJ => k_is)
    (case jpg => k_is)
    (case jhd => k_is)
    (case jpo => k_is)
    (case jsa => k_is)
    (case jmk => k_is)
    (case jkc => k_is)
    (case jfront => k_is)
    (case jslots => k_is)
    (case jposition => k_is)
    (case jfull => k_is)
    (case jcost => k_is)
    (case a1 => k_is)
    (case l1 => k_is)
    (case c1 => k_is)
    (case k1 => k_is)
    (case a2 => k_is)
    (case l2 => k_is)
    (case c2 => k_is)
    (case k2 => k_is)
    (case a3 => k_is)
    (case l3 => k_is)
    (case c3 => k_is)
    (case k3 => k_is)
    (case a4 => k_is)
    (case i4 => k_is)
    (case l4 => k_is)
    (case c4 => k_is)
    (case k4 => k_is)
    (case a5 => k_is)
    (case i5 => k_is)
    (case l5 => k_is)
    (case c5 => k_is)
    (case k5 => k_is)
    (case a6 => k_is)
    (case i6 => k_is)
    (case l6 => k_is)
    (case c6 => k_is)
    (case k6 => k_is)
    (case a7 => k_is)
    (case l7 => k_is)
    (case c7 => k_is)
    (case k7 => k_is)
    (case a8 => k_is)
    (case l8 => k_is)
    (case c8 => k_is)
    (case k8 => k_is)
    (case a9 => k_is)
    (case l9 => k_is)
    (case c9 => k_is)
    (case k9 => k_is)
    (case a10 => k_is)
    (case l10 => k_is)
    (case c10 => k_is)
    (case k10 => k_is)
    (case a11 => k_is)
    (case l11 => k_is)
    (case c11 => k_is)
    (case k11 => k_is)
    (case a12 => k_is)
    (case l12 => k_is)
    (case c12 => k_is)
    (case k12 => k_is)
    (case a13 => k_is)
    (case l13 => k_is)
    (case c13 => k_is)
    (case k13 => k_is)
    (case a14 => k_is)
    (case l14 => k_is)
    (case c14 => k_is)
    (case k14 => k_is)
    (case a15 => k_is)
    (case l15 => k_is)
    (case c15 => k_is)
    (case k15 => k_is)
    (case a16 => k_is)
    (case l16 => k_is)
    (case c16 => k_is)
    (case k16 => k_is)
    (case a17 => k_is)
    (case l17 => k_is)
    (case c17 => k_is)
    (case k17 => k_is)
    (case a18 => k_is)
    (case l18 => k_is)
    (case c18 => k_is)
    (case k18 => k_is)
#print axioms PySem.Challenge.cw_countermarch_k51_whole_any_schedule_is_j_holds
