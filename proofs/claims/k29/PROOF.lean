import PyProof.Rows.All
import Wide.All
import OpenK.AllK
import Wide.FinOn
import KE.KExcSuper
import HandS.ForExc
import HandS.ExcInit
import HandS.ExcField
import HandS.ExcSuper
import HandS.Defaults
import HandS.ExcCtx
import HandS.HeadHook1
import HandS.HeadHook2
import HandS.HeadHook4
import HandS.ForMost
import HandS.CallLocal
import HandS.Flow
import HandS.Style
import HandS.Wide
import HandS.HotCalls
import PyProof.StrLawsTight
import PyProof.StrLawsChain
import HandS.Head0
import HandS.Head1
import HandS.Head2
import HandS.HeadEnd
import PySem.Challenge.RW_outlived_k29_transcripts_that_are_none
import HandS.Codes
import HandS.IsInst
import HandS.ExcOwn
import HandS.Lambda
import HandS.AnyAll
import KE.GoesEnum
import KE.KNest
import PyProof.TupleOfGen
import PyProof.GenCompT
import HandS.DictTup
import HandS.Iter
import HandS.TupAny
import HandS.SetKeys
import HandS.TupSets
import HandS.HeadWalk
import HandS.EndTab
import KE.KNestM
section
set_option Elab.async false
set_option linter.all false
set_option maxRecDepth 100000
set_option maxHeartbeats 4000000
/-! An own error over own errors over ValueError, with an own __init__ of two parameters: super().__init__(a, b), then both stored in fields. -/
namespace PySem
namespace XB
open PySem.W PySem.Calls PyProof.Rows PySem.HandSPX
/-- the text of such an __init__, its two parameters (and fields) a and b -/
def iA (p1 p2 p3 : Pos) : Arguments := { posonlyargs := [], args := [{ arg := "self", annotation := none, pos := p1 }, { arg := "line", annotation := none, pos := p2 }, { arg := "column", annotation := none, pos := p3 }], vararg := none, kwonlyargs := [], kw_defaults := [], kwarg := none, defaults := [] }
def iB (q1 q2 q3 q4 q5 q6 q7 r1 r2 r3 r4 t1 t2 t3 t4 : Pos) : List Stmt :=
  [.Expr (.Call (.Attribute (.Call (.Name "super" q1) [] [] q2) "__init__" q3) [.Name "line" q4, .Name "column" q5] [] q6) q7,
   .Assign [.Attribute (.Name "self" r1) "line" r2] (.Name "line" r3) r4,
   .Assign [.Attribute (.Name "self" t1) "column" t2] (.Name "column" t3) t4]
def iS : Scope := { kind := .function, names := [(PySem.Str.ofString "self", .local), (PySem.Str.ofString "line", .local), (PySem.Str.ofString "column", .local), (PySem.Str.ofString "__class__", .free), (PySem.Str.ofString "super", .globalImplicit)], isGenerator := false, isCoroutine := false, more := [] }
/-- what the written part says of the class at C and of its __init__ at fI -/
structure XTxt (prog : Program) (K : Frag) (mg : Str → Option Value) (c q : Str) (C fI : Addr) : Prop where
  gC : mg c = some (.ref C)
  cls : ∃ nm qn N bs bm sn sub ab col dd k0 k1 k2 k3 k5, K.lookup C = some (excClassObj nm qn C N bs bm true sn sub ab col dd k0 k1 k2 k3 k5 "ValueError.__new__") ∧ refsVE bm = true
  sa : findIn K (.ref C) "__setattr__" = some (some (.builtin "object.__setattr__"))
  ga : findIn K (.ref C) "__getattribute__" = some (some (.builtin "BaseException.__getattribute__"))
  gg : findIn K (.ref C) "__getattr__" = some none
  noA : findIn K (.ref C) "line" = some none
  noB : findIn K (.ref C) "column" = some none
  iC : findIn K (.ref C) "__init__" = some (some (.ref fI))
  tC : typeIn K (.ref fI) = some (.type "function")
  kC : keepIn K (.ref C) = true
  exC : subIn K (.ref C) (.type "BaseException") = some true
  tyC : typeIn K (.ref C) = some (.type "type")
  hdC : hasDictIn K C = true
  te : exmOne K (.ref C) (.ref C) = some true
  up : ks_superIn K C C "__init__" = some (some (.builtin "ValueError.__init__"))
  own : mroIn K C (.ref C) = some true
  subV : subIn K (.ref C) (.type "ValueError") = some true
  st : nsIn K cStatics "thirdparty.any" = some none
  sup : mg "super" = none
  htop : (prog.main.scope.names.lookup ("super" : Str)).isSome = false
  fn : ∃ (oc : Value) (od : Option Addr) (doc pm : Value) (an : Option Addr) (cda : Addr) (ct : Value) (osl : Array (Option Value)) (cc : Addr) (p1 p2 p3 q1 q2 q3 q4 q5 q6 q7 r1 r2 r3 r4 t1 t2 t3 t4 : Pos),
    K.lookup fI = some ⟨oc, od, .func (ksFn "__init__" q (iA p1 p2 p3) (iB q1 q2 q3 q4 q5 q6 q7 r1 r2 r3 r4 t1 t2 t3 t4) iS .none .none doc pm an (.ref cda) ct cc), osl⟩ ∧ (q3.endLine == q6.line) = true ∧ codeIn K (.ref cda) q = true ∧
    (∃ cl cld csl, K.lookup cc = some ⟨cl, cld, .cell (some (.ref C)), csl⟩) ∧ ∃ ccl cdd vs ccs file tf, K.lookup cda = some ⟨ccl, cdd, .fields vs, ccs⟩ ∧ vs[2]? = some (.str file tf) ∧ ((prog.main.file : Str) == file) = true
theorem two_size (v u : Value) : [v, u].length ≤ sizeLine := by
  rw [sizeLine_eq]
  exact (by decide : 2 ≤ 16777216)
section
variable {prog : Program} {w : World} {A : Around} {E : Value → Shared → Prop} {h : Heap} {g : Array GenState} {d : Drawn} {t : Nat} {os : OsState}
variable {nm q : Str} {C N : Addr} {bs bm : List Value} {hdct : Bool} {sn : List Str} {sub : List Value} {ab : Bool} {col : Option Bool} {dd : Option Addr} {k0 k1 k2 k3 k5 : Option Value}
/-- the bound ValueError.__init__ called -/
theorem call_mw {u e t0 : Addr} {rest : List Value} {Q : Value → Shared → Prop}
    (hC : h.get? C = some (excClassObj nm q C N bs bm hdct sn sub ab col dd k0 k1 k2 k3 k5 "ValueError.__new__")) (he : h.get? e = some (excO C t0)) (hu : h.get? u = some (kxs_mw "ValueError.__init__" e)) (hrest : rest.length ≤ sizeLine)
    (hq : ∀ h' t1, (∀ b o, b ≠ e → h.get? b = some o → h'.get? b = some o) → h'.get? e = some (excO C t1) → Q .none ⟨h', g, d, t, os⟩) :
    wpAny (model prog w) A (call (.ref u) rest) Q E ⟨h, g, d, t, os⟩ := by
  refine wpAny_call (codeAny_of_tree ?_)
  show wpAny _ A.in1 (callAny (.ref u) ⟨rest, []⟩) _ _ _
  simp only [callAny]
  refine wpAny_bind (wpAny_load hu ?_)
  simp only [kxs_mw, show (Value.type "method-wrapper" == Value.type "method" || Value.type "method-wrapper" == Value.type "builtin_function_or_method" || Value.type "method-wrapper" == Value.type "method-wrapper") = true by decide, if_true]
  refine W.KFB.if_so (by decide) ?_
  refine wpAny_bind (ESX.check_bound F.excBase_ValueError hC he rfl ?_)
  refine wpAny_bind (wpAny_pure (wpAny_pure ?_))
  refine ⟨Code.quiet_builtin _ (by decide +kernel), codeAny_builtin F.excBase_ValueError.initEntry ?_⟩
  rw [Around.under_plainId F.excBase_ValueError.init.plain _]
  wp_walk
  refine hq _ h.objs.size (fun b o hb ho => ?_) ?_
  · rw [Heap.get?_update_other _ _ (Ne.symm hb)]
    exact Heap.get?_push_of_some _ ho
  · rw [Heap.get?_update_self _ (Heap.get?_push_of_some _ he) rfl]
    rfl
end
/-- what __init__ leaves of a fresh exception at x -/
structure InitEnd (h h' : Heap) (x C dx t1 : Addr) (v u : Value) : Prop where
  keep : ∀ b o, b ≠ x → h.get? b = some o → h'.get? b = some o
  obj : h'.get? x = some { cls := .ref C, dict := some dx, data := .fields #[.ref t1, .none, .none, .none, .bool false, .none] }
  dbig : h.objs.size ≤ dx
  dne : dx ≠ x
  ns : h'.Ns1 dx (fun y => if y = "column" then some u else if y = "line" then some v else none)
section
variable {prog : Program} {w : World} {A : Around} {E : Value → Shared → Prop} {R : Result → Shared → Prop} {s : Shared} {K : Frag} {mg mb : Str → Option Value} {c q : Str} {C fI : Addr}
theorem ldl {M : Model} {env : Env} {m : Str → Option Value} {x : Str} {pos : Pos} {v : Value} {Q : Value → Shared → Prop} (hk : env.scope.kind = .function) (hl : env.kindOf x = some .local) (hn : s.heap.Ns env.locals m) (hv : m x = some v) (hd : (x == ("__debug__" : Str)) = false) (h : Q v s) :
    wpAny M A (eval (.Name x pos) env) Q E s := wpAny_Name (wpAny_loadName_local hk hl hn hv h) hd
/-- a method's call where the receiver is a super() -/
theorem mcall {cd : Code} {env : Env} {o : Expr} {name : Str} {apos pos : Pos} {args : List Expr} {Q : Value → Shared → Prop}
    (hfew : ((backTo pos (starEach args env)).all (fun x => !x.1) && (backToKw pos (keywordEach [] env)).all (fun x => x.1.isSome)
      && decide (args.length + ([] : List Keyword).length + (if ([] : List Keyword).isEmpty then 0 else 1) < 30)) = true)
    (hline : (apos.endLine == pos.line) = true)
    (h : wpAt (model prog w) A cd (attributeBase o name env (eval o env)) (fun ov s₁ => ∀ pl, wpAny (model prog w) A (getMethod ov name pl) (fun fx s₂ => wpAny (model prog w) A (callWith pos fx.1 fx.2 (backTo pos (starEach args env)) []) Q E s₂) E s₁) E s) :
    wpAt (model prog w) A cd (eval (.Call (.Attribute o name apos) args [] pos) env) Q E s := by
  rw [arm_eval_Call]
  have hform : methodCallForm (args.length + ([] : List Keyword).length) (backTo pos (starEach args env)) (backToKw pos (keywordEach [] env)) = true := hfew
  have hpos : methodCallPos true o env apos pos = pure pos := by unfold methodCallPos; simp [hline]
  refine wpAt_bind (wpAt_mono h (fun ov s₁ h₁ => wpAt_of_wpAny (wpAny_bind (wpAny_standAt ?_))) fun _ _ x => x)
  unfold methodCall
  rw [hform]
  refine wpAny_bind (wpAny_holding (wpAny_mono (h₁ _) (fun fx s₂ h₂ => ?_) fun _ _ x => x))
  exact wpAny_bind (wpAny_of_eq hpos h₂)
theorem x_init (T : XTxt prog K mg c q C fI) {x t0 : Addr} {v u : Value} (X : K.In s.heap) (G : s.heap.Ns mainGlobals mg) (B : s.heap.Ns builtinsNs mb) (hB : ∀ x : Str, x ≠ "__name__" → mb x = bootBuiltins x) (hlim : s.heap.NoLimit)
    (hx : s.heap.get? x = some (excO C t0)) (hnx : K.lookup x = none) (hroom : A.depth < recursionLimit)
    (hq : ∀ h' tk dx t1, InitEnd s.heap h' x C dx t1 v u → R (.ok (.ret .none)) { s with heap := h', toks := tk }) :
    codeAny (model prog w) A (.call (.ref fI) ⟨[.ref x, v, u], []⟩) R s := by
  obtain ⟨oc, od, doc, pm, an, cda, ct, osl, cc, p1, p2, p3, q1, q2, q3, q4, q5, q6, q7, r1, r2, r3, r4, t1, t2, t3, t4, ho, hln, hcd, ⟨cl, cld, csl, hcell⟩, ccl, cdd, cvs, ccs, file, tf, hcode, hvs, hfile⟩ := T.fn
  obtain ⟨nm, qn, N, bs, bm, sn, sub, ab, col, dd, k0, k1, k2, k3, k5, hC, hbm⟩ := T.cls
  have hcl : clsIn K C = some { name := nm, bases := bs, mro := .ref C :: bm, ns := N, qualname := qn, hasDict := true, slotNames := sn, subclasses := sub, abstract := ab, collection := col, hasDel := false } := by unfold clsIn; rw [hC] <;> rfl
  refine ks_codeAny_call_defAt (fd := ksFn "__init__" q (iA p1 p2 p3) (iB q1 q2 q3 q4 q5 q6 q7 r1 r2 r3 r4 t1 t2 t3 t4) iS .none .none doc pm an (.ref cda) ct cc) (binds := [("self", .ref x), ("line", v), ("column", u)]) hroom (X _ _ ho) rfl hlim (codeRec_of X hcd) rfl (BindsTo.of_eq ?bind) ?cells ?locs (fun h₀ hns hk => ?_) rfl rfl rfl
  case bind =>
    rfl
  case cells =>
    show ∀ y ∈ iS.names, y.2 ≠ NameKind.cell
    decide
  case locs =>
    exact locs rfl
  have hxL : s.heap.objs.size ≠ x := Nat.ne_of_gt (Heap.lt_size hx)
  have X0 : K.In h₀ := X.keeps hk
  have G0 : h₀.Ns mainGlobals mg := G.keeps hk
  have B0 : h₀.Ns builtinsNs mb := B.keeps hk
  have hx0 := hk _ _ hx
  have hxC : x ≠ C := fun z => by rw [z, hC] at hnx; cases hnx
  -- super().__init__(line, column)
  show wpAt _ _ _ (execs (iB q1 q2 q3 q4 q5 q6 q7 r1 r2 r3 r4 t1 t2 t3 t4) (ksEnv q iS s.heap.objs.size fI (.ref cda) cc)) _ _ _
  refine ks_wpAt_execs_cons (ks_wpAt_Expr_any (mcall rfl hln (ks_wpAt_super_base (env := ksEnv q iS s.heap.objs.size fI (.ref cda) cc) rfl rfl rfl rfl (X0 _ _ ho) rfl rfl rfl (X0 _ _ hcode) rfl hvs hfile T.htop ?_)) rfl rfl)
  refine ks_loadName_global rfl rfl (loadGlobal_builtin (env := ksEnv q iS s.heap.objs.size fI (.ref cda) cc) G0 T.sup B0 ((hB _ (by decide +kernel)).trans (by first | boot_by_name | rfl | kernel_rfl)) ⟨rfl, ?_⟩)
  refine wpAny_loadName_free rfl rfl rfl ⟨_, X0 _ _ hcell, rfl⟩ ?_
  refine wpAny_loadName_local rfl rfl hns (v := .ref x) rfl ?_
  refine ks_wpAny_isType_cls (X0 _ _ hC) rfl ⟨rfl, ?_⟩
  refine ks_wpAny_call_super (X0 _ _ hC) rfl hx0 rfl (fun z e => by cases e) (looks_mroIn X0 T.own) (fun h1 e1 kp1 => ?_)
  have X1 : K.In h1 := X0.keeps kp1
  have hx1 := kp1 _ _ hx0
  have IA : InstAt h1 x (excO C t0) C none := ⟨hx1, rfl, rfl, trivial⟩
  have sub1 : Looks (model prog w) h1 (isInstance (.ref x) (.type "ValueError")) true := IA.type.andThen (looks_subIn X1 T.subV)
  intro pl
  obtain ⟨hlook, hdrop⟩ : alongIn K "__init__" (((Value.ref C :: bm).dropWhile (· != .ref C)).drop 1) = some (some (.builtin "ValueError.__init__")) ∧ True := by
    refine ⟨?_, trivial⟩
    have e := T.up
    unfold ks_superIn at e
    rw [hcl] at e
    exact e
  refine kxs_getMethod kxs_ValueError e1 (looks_opaque X1 T.st) (l₀ := Value.ref C :: bm) ?_ rfl X1 hlook sub1 hxC (by decide) ?_
  · exact fun A Q E s k q => wpAny_bind ((looks_clsIn X1 hcl) A _ E s k (wpAny_pure q))
  have hu : (h1.push (kxs_mw "ValueError.__init__" x)).get? h1.objs.size = some (kxs_mw "ValueError.__init__" x) := Heap.get?_push_size _ rfl
  have kp2 : ∀ b o, h1.get? b = some o → (h1.push (kxs_mw "ValueError.__init__" x)).get? b = some o := fun b o e => Heap.get?_push_of_some _ e
  have kp02 : ∀ b o, h₀.get? b = some o → (h1.push (kxs_mw "ValueError.__init__" x)).get? b = some o := fun b o e => kp2 b o (kp1 b o e)
  have hns2 := hns.keeps kp02
  refine kxs_callWith (i := "ValueError.__init__") (x := x) rfl ?_
  show wpAny _ _ (evalArgs (.ref h1.objs.size) true ((false, eval (.Name "line" q4) (ksEnv q iS s.heap.objs.size fI (.ref cda) cc)) :: backTo q6 (starEach [.Name "column" q5] (ksEnv q iS s.heap.objs.size fI (.ref cda) cc))) []) _ _ _
  refine evalArgs_plain ?_
  refine spliced_cons (ldl rfl rfl hns2 (v := v) rfl (by decide) ?_)
  show wpAny _ _ (spliced ((false, eval (.Name "column" q5) (ksEnv q iS s.heap.objs.size fI (.ref cda) cc)) :: [])) _ _ _
  refine spliced_cons (ldl rfl rfl hns2 (v := u) rfl (by decide) ?_)
  refine spliced_nil ?_
  refine ⟨hu, ?_⟩
  have X2 : K.In (h1.push (kxs_mw "ValueError.__init__" x)) := X1.keeps kp2
  refine call_mw (X2 _ _ hC) (kp2 _ _ hx1) hu (two_size v u) fun h3 x3 kp3 hx3 => ?_
  have keep03 : ∀ b o, b ≠ x → h₀.get? b = some o → h3.get? b = some o := fun b o hb e => kp3 b o hb (kp02 b o e)
  have neX : ∀ b o, K.lookup b = some o → b ≠ x := fun b o e z => by rw [z, hnx] at e; cases e
  have X3 : K.In h3 := fun b o e => keep03 b o (neX b o e) (X0 b o e)
  have hns3 : h3.Ns s.heap.objs.size (fun y => List.lookup y [(PySem.Str.ofString "self", Value.ref x), (PySem.Str.ofString "line", v), (PySem.Str.ofString "column", u)].reverse) := by
    obtain ⟨o, es, ep, ho3, r⟩ := hns
    exact ⟨o, es, ep, keep03 _ o hxL ho3, r⟩
  -- self.line = line
  show wpAt _ _ _ (execs [.Assign [.Attribute (.Name "self" r1) "line" r2] (.Name "line" r3) r4, .Assign [.Attribute (.Name "self" t1) "column" t2] (.Name "column" t3) t4] (ksEnv q iS s.heap.objs.size fI (.ref cda) cc)) _ _ _
  refine wpAt_of_wpAny (wpAny_execs_cons (plainObj_wpAny_Assign_Attribute ?_))
  refine ldl rfl rfl hns3 (v := v) rfl (by decide) (ldl rfl rfl hns3 (v := .ref x) rfl (by decide) ?_)
  refine set_plain X3 (ox := excO C x3) (od := none) ⟨hx3, rfl, rfl, trivial⟩ T.sa ?_
  refine exc_osa X3 hx3 hcl (show refsVE (.ref C :: bm) = true from hbm) rfl T.noA (fun h4 tk4 dx kp4 dn dne hx4 hn4 => ?_)
  have big : s.heap.objs.size < dx := Nat.lt_of_lt_of_le hns3.lt dn
  have X4 : K.In h4 := fun b o e => kp4 b o (neX b o e) (X3 b o e)
  have hns4 : h4.Ns s.heap.objs.size (fun y => List.lookup y [(PySem.Str.ofString "self", Value.ref x), (PySem.Str.ofString "line", v), (PySem.Str.ofString "column", u)].reverse) := by
    obtain ⟨o, es, ep, ho4, r⟩ := hns3
    exact ⟨o, es, ep, kp4 _ o hxL ho4, r⟩
  -- self.column = column
  refine wpAny_execs_cons (plainObj_wpAny_Assign_Attribute ?_)
  refine ldl rfl rfl hns4 (v := u) rfl (by decide) (ldl rfl rfl hns4 (v := .ref x) rfl (by decide) ?_)
  obtain ⟨oD, esD, epD, hoD, _⟩ := id hn4
  refine set_plain X4 (ox := { cls := .ref C, dict := some dx, data := .fields #[.ref x3, .none, .none, .none, .bool false, .none] }) (od := some oD) ⟨hx4, rfl, rfl, hoD⟩ T.sa ?_
  refine OEX.osa_old (nl := ["line"]) X4 hx4 hn4 (fun y hy => ?_) (by decide) hcl (show refsVE (.ref C :: bm) = true from hbm) rfl T.noB (fun h5 tk5 kp5 hn5 => ?_)
  · by_cases e : y = "line"
    · simp [e]
    · rw [if_neg e] at hy
      first
        | exact absurd rfl hy
        | (simp at hy)
  · refine wpAny_execs_nil (hq h5 _ dx x3 ⟨fun b o hb e => ?_, ?_, Nat.le_of_lt big, dne, ?_⟩)
    · have hl := Heap.lt_size e
      have e3 := keep03 b o hb (hk b o e)
      have e4 := kp4 b o hb e3
      exact kp5 b o (Nat.ne_of_lt (Nat.lt_trans hl big)) e4
    · exact kp5 x _ (Ne.symm dne) hx4
    · exact hn5
end
/-- a made exception -/
structure OwnMade (h h' : Heap) (e C d : Addr) (v u : Value) : Prop where
  keep : ∀ b o, h.get? b = some o → h'.get? b = some o
  new : h.objs.size ≤ e
  obj : ∃ oe vs, h'.get? e = some oe ∧ oe.cls = .ref C ∧ oe.dict = some d ∧ oe.data = .fields vs ∧ vs[1]? = some .none ∧ vs[2]? = some .none
  dbig : h.objs.size ≤ d
  dne : d ≠ e
  ns : h'.Ns1 d (fun y => if y = "column" then some u else if y = "line" then some v else none)
section
variable {prog : Program} {w : World} {A : Around} {R : Result → Shared → Prop} {s : Shared} {K : Frag} {mg mb : Str → Option Value} {c q : Str} {C fI : Addr}
theorem x_made (T : XTxt prog K mg c q C fI) {v u : Value} (X : K.In s.heap) (G : s.heap.Ns mainGlobals mg) (B : s.heap.Ns builtinsNs mb) (hB : ∀ x : Str, x ≠ "__name__" → mb x = bootBuiltins x) (hlim : s.heap.NoLimit) (hroom : A.depth + 1 < recursionLimit)
    (hq : ∀ h' tk e d, OwnMade s.heap h' e C d v u → R (.ok (.ret (.ref e))) { s with heap := h', toks := tk }) :
    codeAny (model prog w) A (.call (.ref C) ⟨[v, u], []⟩) R s := by
  obtain ⟨nm, qn, N, bs, bm, sn, sub, ab, col, dd, k0, k1, k2, k3, k5, hC, hbm⟩ := T.cls
  obtain ⟨hp, g, dr, tk, os⟩ := s
  have k : ∀ b o, hp.get? b = some o → ((hp.push (kdv_tup [v, u])).push (excO C hp.objs.size)).get? b = some o := fun b o e => Heap.get?_push_of_some _ (Heap.get?_push_of_some _ e)
  have hget : ((hp.push (kdv_tup [v, u])).push (excO C hp.objs.size)).get? (hp.objs.size + 1) = some (excO C hp.objs.size) := by heap_get
  have hnx : K.lookup (hp.objs.size + 1) = none := by
    cases e : K.lookup (hp.objs.size + 1) with
    | none => rfl
    | some o =>
      have z : hp.get? (hp.objs.size + 1) = some o := X _ _ e
      exact absurd (Nat.lt_of_succ_lt (Heap.lt_size z)) (Nat.lt_irrefl _)
  refine call_own F.excBase_ValueError (fun X => refsVE_contains X bm hbm) (X _ _ hC) (looks_findIn X T.iC) (fun self => bind_fn X self T.tC) (two_size v u) ?_
  refine x_init (s := ⟨(hp.push (kdv_tup [v, u])).push (excO C hp.objs.size), g, dr, tk, os⟩) T (X.keeps k) (G.keeps k) (B.keeps k) hB (hlim.keeps k) hget hnx ?_ fun h' tk' dx t1 M => ?_
  · show A.depth + 1 < recursionLimit
    exact hroom
  · obtain ⟨k', hx, dn, dne, hns⟩ := M
    have old : ∀ b o, hp.get? b = some o → h'.get? b = some o := fun b o e => k' b o (Nat.ne_of_lt (Nat.lt_succ_of_lt (Heap.lt_size e))) (k b o e)
    have z : hp.objs.size + 1 + 1 ≤ dx := by
      first
        | (simpa only [Heap.size_push] using dn)
        | exact dn
        | (have q := dn; rw [Heap.size_push, Heap.size_push] at q; exact q)
    exact ⟨rfl, hq h' tk' (hp.objs.size + 1) dx ⟨old, Nat.le_succ _, ⟨_, _, hx, rfl, rfl, rfl, rfl, rfl⟩, Nat.le_trans (Nat.le_trans (Nat.le_succ _) (Nat.le_succ _)) z, dne, hns⟩⟩
end
end XB
end PySem
namespace L2
open PySem PySem.Spec PyProof.Rows
/-- the fields of such an error -/
abbrev xFs (v u : V) : List (Str × V) := [("column", u), ("line", v)]
theorem relO_x {v u : V} {v' u' : Value} (r : RelV v v') (r2 : RelV u u') (f : Str) : RelO (List.lookup f (xFs v u)) (if f = "column" then some u' else if f = "line" then some v' else none) := by
  by_cases hw : f = "column"
  · subst hw
    rw [if_pos rfl]
    have q : List.lookup ("column" : Str) (xFs v u) = some u := by simp [List.lookup]
    rw [q]
    exact r2
  · rw [if_neg hw]
    have qw : (f == ("column" : Str)) = false := by simpa using hw
    by_cases hl : f = "line"
    · subst hl
      rw [if_pos rfl]
      have q : List.lookup ("line" : Str) (xFs v u) = some v := by simp [List.lookup, qw]
      rw [q]
      exact r
    · rw [if_neg hl]
      have ql : (f == ("line" : Str)) = false := by simpa using hl
      have q2 : List.lookup f (xFs v u) = none := by simp [List.lookup, qw, ql]
      rw [q2]
      trivial
section
variable {X : Cx} {c q : Str} {C fI : Addr}
/-- Bad(a, b) -/
def tMkX (C : Addr) (ta : TA) : St → Hp → XK → Prop := fun σ H Q => ta σ H fun vs H1 => ∃ v u, vs = [v, u] ∧ ∀ d, H1 d = none → Q (.ref C) (some d) (upd H1 d (.xd (xFs v u)))
theorem pmk_x {a b : Expr} {ta : TA} {p pos : Pos} {k : Nat} (T : PySem.XB.XTxt X.prog X.K X.mg c q C fI) (hr : Room k X.A) (ha : PA X [a, b] ta) (hg : Gl X c := by rfl) (hdb : (c == ("__debug__" : Str)) = false := by decide)
    (he : starEach [a, b] X.env = (false, eval a X.env) :: starEach [b] X.env := by rfl) (hpl : (backTo pos (starEach [b] X.env)).any (·.1) = false := by rfl) :
    L2N.PMk X (.Call (.Name c p) [a, b] [] pos) (tMkX C ta) := by
  intro pins s σ H Q I h
  refine wpAny_Call_Name_kw (ld_glob I hg T.gC ?_ hdb)
  refine PySem.W.callWith_K (h₀ := X.base) I.ok.mod.kin T.kC (thn (ha.run pos pins s σ H _ I h) fun us s1 hh => ?_) he hpl
  obtain ⟨vs, H1, I1, r1, v, u, ev, q1⟩ := hh
  subst ev
  refine ⟨I1.kIn, ?_⟩
  cases r1 with
  | cons rv rn =>
    rename_i v' us'
    cases rn with
    | cons ru rn =>
      rename_i u' us''
      cases rn
      show wpAny _ _ (call (.ref C) [v', u']) _ _ _
      have hlim := I1.nolimit
      obtain ⟨mb, hb1, hb2⟩ := I1.mod.blt
      have hb3 := hb1.keeps I1.bk
      have hg3 := I1.mod.glob.keeps I1.bk
      have kin := I1.kIn
      obtain ⟨hp, g, dr, tk, os⟩ := s1
      refine wpAny_call (PySem.XB.x_made T kin hg3 hb3 hb2 hlim (by have := hr.dp; omega) fun h' tk' e d M => ?_)
      show L2N.MkP X pins σ Q (.ref e) ⟨h', g, dr, tk', os⟩
      obtain ⟨oe, fv, hoe, hc, hd, hdat, h1, h2⟩ := M.obj
      have hns := M.ns
      obtain ⟨G', g1, g2⟩ := restrict h' fun b => decide (b ≠ e)
      have gk : ∀ b, b ≠ e → G'.get? b = h'.get? b := fun b hb => g1 b (decide_eq_true hb)
      have ge : G'.get? e = none := g2 e (by simp)
      have old : ∀ b o, hp.get? b = some o → G'.get? b = some o := fun b o q => (gk b (Nat.ne_of_lt (Nat.lt_of_lt_of_le (Heap.lt_size q) M.new))).trans (M.keep b o q)
      have ob : ObjOk X.prog X.w (upd H1 d (.xd (xFs v u))) G' d (.xd (xFs v u)) :=
        ⟨_, hns.at (fun o q => (gk d M.dne).trans q), fun f => relO_x rv ru f⟩
      have J : Inv X pins σ (upd H1 d (.xd (xFs v u))) ⟨G', g, dr, tk', os⟩ := I1.laid (t' := tk') old M.dbig ob
      refine ⟨e, oe, fv, ⟨G', g, dr, tk', os⟩, _, .ref C, some d, rfl, J, fun b o q => ?_, ge, hoe, ⟨hc, hd, fun vs q => by rw [hdat] at q; cases q; exact h2⟩, hdat, h1, ?_, rfl, I1.bare, raises_own T.exC T.tyC, q1 d (I1.hok.fresh M.dbig)⟩
      · by_cases hb : b = e
        · have q' : G'.get? b = some o := q
          rw [hb, ge] at q'; cases q'
        · exact (gk b hb).symm.trans q
      · rw [upd_ne (Ne.symm M.dne)]
        exact I1.hok.fresh M.new
/-- raise Bad(a, b) -/
def tRaiseX (C : Addr) (W : WX) (ta : TA) : TS := fun _ σ H => tMkX C ta σ H fun cls d H' => W cls d σ H'
theorem ps_raiseX {a b : Expr} {ta : TA} {W : WX} {p pos pos2 : Pos} {k : Nat} (hc : X.calm = true) (T : PySem.XB.XTxt X.prog X.K X.mg c q C fI) (hr : Room k X.A) (tk : L2N.Takes X W) (ha : PA X [a, b] ta) (hg : Gl X c := by rfl) (hdb : (c == ("__debug__" : Str)) = false := by decide)
    (he : starEach [a, b] X.env = (false, eval a X.env) :: starEach [b] X.env := by rfl) (hpl : (backTo pos (starEach [b] X.env)).any (·.1) = false := by rfl) :
    PS X (.Raise (some (.Call (.Name c p) [a, b] [] pos)) none pos2) (tRaiseX C W ta) := L2N.ps_raise hc tk (pmk_x T hr ha hg hdb he hpl)
theorem xfC_of {P : Program} {K : PySem.W.Frag} {mg : Str → Option Value} (T : PySem.XB.XTxt P K mg c q C fI) : XfC K C := ⟨T.ga, T.gg, T.exC, T.hdC⟩
end
end L2
end

section
set_option Elab.async false
set_option linter.all false
set_option maxRecDepth 100000
set_option maxHeartbeats 4000000
/-! The head's facts, by names: what He.hookD tells, read off the names' reach alone, and the errors of XB. -/
namespace XH
open PySem PySem.Spec PyProof.Rows L2 He
/-- what the module's names reach: defs, classes, their names' dicts, methods, code, cells -/
def refsM (o : Obj) : List Addr := match o.data with
  | .dict es _ => es.toList.flatMap fun e => refV e.val
  | .func fd => refV fd.code ++ fd.closure.map (·.2)
  | .cls cd => [cd.ns]
  | _ => []
def nextM (g : Addr → Option Obj) (as : List Addr) : List Addr := as.flatMap fun a => match g a with
  | some o => refsM o
  | none => []
def asM (g : Addr → Option Obj) : List Addr := [mainGlobals] ++ (nextM g [mainGlobals] ++ (nextM g (nextM g [mainGlobals]) ++ (nextM g (nextM g (nextM g [mainGlobals])) ++ (nextM g (nextM g (nextM g (nextM g [mainGlobals]))) ++ [cStatics]))))
/-- an error class with its own __init__, its class's name -/
abbrev FnV : Type := Option (Str × Str × Arguments × FuncBody × Scope × Addr × List Str × Addr)
def fnX (K : PySem.W.Frag) (c : Str) : FnV := match K.lookup (ma K (ga K c) "__init__") with
  | some ⟨_, _, .func fd, _⟩ => some (fd.name, fd.qualname, fd.params, fd.body, fd.scope, fd.globals, fd.closure.map (·.1), fd.builtins)
  | _ => none
structure XcD where
  c : Str
  qual : Str
  params : Arguments
  body : List Stmt
  scope : Scope
def XcD.val (d : XcD) : FnV := some ("__init__", d.qual, d.params, .stmts d.body, d.scope, mainGlobals, ["__class__"], builtinsNs)
def clsB (K : PySem.W.Frag) (C : Addr) : Bool := match K.lookup C with
  | some ⟨.type t, _, .cls cd, sl⟩ => (match cd.mro, sl.toList with
    | .ref C' :: bm, [_, _, _, _, some (.builtin n), _] => decide (t = "type") && (decide (C' = C) && (decide (n = "ValueError.__new__") && (!cd.hasDel && (cd.hasDict && HandSPX.refsVE bm))))
    | _, _ => false)
  | _ => false
def codeB (P : Program) (K : PySem.W.Frag) (cda : Addr) : Bool := match K.lookup cda with
  | some ⟨_, _, .fields vs, _⟩ => (match (vs[2]? : Option Value) with
    | some (Value.str file _) => ((P.main.file : Str) == file)
    | _ => false)
  | _ => false
def cellB (K : PySem.W.Frag) (cc C : Addr) : Bool := match K.lookup cc with
  | some ⟨_, _, .cell (some (.ref D)), _⟩ => decide (D = C)
  | _ => false
def funB (P : Program) (K : PySem.W.Frag) (C f : Addr) (q : Str) : Bool := match K.lookup f with
  | some ⟨_, _, .func fd, _⟩ => (match fd.code, fd.closure, fd.defaults, fd.kwdefaults with
    | .ref cda, [(_, cc)], .none, .none => PySem.W.codeIn K (.ref cda) q && (cellB K cc C && codeB P K cda)
    | _, _, _, _ => false)
  | _ => false
def xB (P : Program) (K : PySem.W.Frag) (d : XcD) : Bool :=
  eqO (PySem.W.nsIn K mainGlobals d.c) (some (some (.ref (ga K d.c)))) && (clsB K (ga K d.c) && (funB P K (ga K d.c) (ma K (ga K d.c) "__init__") d.qual &&
  (eqO (PySem.W.findIn K (.ref (ga K d.c)) "__setattr__") (some (some (.builtin "object.__setattr__"))) && (eqO (PySem.W.findIn K (.ref (ga K d.c)) "__getattribute__") (some (some (.builtin "BaseException.__getattribute__"))) &&
  (eqO (PySem.W.findIn K (.ref (ga K d.c)) "__getattr__") (some none) && (eqO (PySem.W.findIn K (.ref (ga K d.c)) "line") (some none) && (eqO (PySem.W.findIn K (.ref (ga K d.c)) "column") (some none) &&
  (eqO (PySem.W.findIn K (.ref (ga K d.c)) "__init__") (some (some (.ref (ma K (ga K d.c) "__init__")))) && (decide (PySem.W.typeIn K (.ref (ma K (ga K d.c) "__init__")) = some (.type "function")) && (PySem.W.keepIn K (.ref (ga K d.c)) &&
  (decide (PySem.W.subIn K (.ref (ga K d.c)) (.type "BaseException") = some true) && (decide (PySem.W.typeIn K (.ref (ga K d.c)) = some (.type "type")) && (PySem.W.hasDictIn K (ga K d.c) &&
  (decide (PySem.W.exmOne K (.ref (ga K d.c)) (.ref (ga K d.c)) = some true) && (eqO (PySem.W.ks_superIn K (ga K d.c) (ga K d.c) "__init__") (some (some (.builtin "ValueError.__init__"))) && (decide (PySem.W.mroIn K (ga K d.c) (.ref (ga K d.c)) = some true) &&
  (decide (PySem.W.subIn K (.ref (ga K d.c)) (.type "ValueError") = some true) && (eqO (PySem.W.nsIn K cStatics "thirdparty.any") (some none) && eqO (PySem.W.nsIn K mainGlobals "super") (some none)))))))))))))))))))
theorem clsB_ok {K : PySem.W.Frag} {C : Addr} (h : clsB K C = true) : ∃ nm qn N bs bm sn sub ab col dd k0 k1 k2 k3 k5, K.lookup C = some (excClassObj nm qn C N bs bm true sn sub ab col dd k0 k1 k2 k3 k5 "ValueError.__new__") ∧ HandSPX.refsVE bm = true := by
  unfold clsB at h
  split at h
  · rename_i t dd cd sl ho
    split at h
    · rename_i C' bm k0 k1 k2 k3 n k5 hm hs
      obtain ⟨h1, h⟩ := ba h
      obtain ⟨h2, h⟩ := ba h
      obtain ⟨h3, h⟩ := ba h
      obtain ⟨h4, h⟩ := ba h
      obtain ⟨h5, h6⟩ := ba h
      have e1 := of_decide_eq_true h1
      have e2 := of_decide_eq_true h2
      have e3 := of_decide_eq_true h3
      subst e1 e2 e3
      obtain ⟨nm, bs, mro, ns, qn, hd, sn, sub, ab, col, del⟩ := cd
      dsimp only at hm h4 h5
      have h4' : del = false := by simpa using h4
      subst hm h4' h5
      have hsl : sl = #[k0, k1, k2, k3, some (.builtin "ValueError.__new__"), k5] := by
        obtain ⟨l⟩ := sl
        simp only at hs
        rw [hs]
      subst hsl
      exact ⟨nm, qn, ns, bs, bm, sn, sub, ab, col, dd, k0, k1, k2, k3, k5, ho, h6⟩
    · cases h
  · cases h
theorem cellB_ok {K : PySem.W.Frag} {cc C : Addr} (h : cellB K cc C = true) : ∃ cl cld csl, K.lookup cc = some ⟨cl, cld, .cell (some (.ref C)), csl⟩ := by
  unfold cellB at h
  split at h
  · rename_i cl cld D csl ho
    have e := of_decide_eq_true h
    subst e
    exact ⟨_, _, _, ho⟩
  · cases h
theorem codeB_ok {P : Program} {K : PySem.W.Frag} {cda : Addr} (h : codeB P K cda = true) : ∃ ccl cdd vs ccs file tf, K.lookup cda = some ⟨ccl, cdd, .fields vs, ccs⟩ ∧ vs[2]? = some (.str file tf) ∧ ((P.main.file : Str) == file) = true := by
  unfold codeB at h
  split at h
  · rename_i ccl cdd vs ccs ho
    split at h
    · rename_i file tf hv
      exact ⟨_, _, _, _, _, _, ho, hv, h⟩
    · cases h
  · cases h
/-- the class's facts -/
theorem xB_ok {P : Program} {K : PySem.W.Frag} {h : Heap} {mg : Str → Option Value} {d : XcD} (X : K.In h) (G : h.Ns mainGlobals mg) (e : fnX K d.c = d.val) (c : xB P K d = true) (htop : (P.main.scope.names.lookup ("super" : Str)).isSome = false)
    (hb : ∃ p1 p2 p3 q1 q2 q3 q4 q5 q6 q7 r1 r2 r3 r4 t1 t2 t3 t4 : Pos, d.params = PySem.XB.iA p1 p2 p3 ∧ d.body = PySem.XB.iB q1 q2 q3 q4 q5 q6 q7 r1 r2 r3 r4 t1 t2 t3 t4 ∧ d.scope = PySem.XB.iS ∧ (q3.endLine == q6.line) = true) :
    PySem.XB.XTxt P K mg d.c d.qual (ga K d.c) (ma K (ga K d.c) "__init__") := by
  obtain ⟨c1, c⟩ := ba c
  obtain ⟨c2, c⟩ := ba c
  obtain ⟨c3, c⟩ := ba c
  obtain ⟨c4, c⟩ := ba c
  obtain ⟨c5, c⟩ := ba c
  obtain ⟨c6, c⟩ := ba c
  obtain ⟨c7, c⟩ := ba c
  obtain ⟨c8, c⟩ := ba c
  obtain ⟨c9, c⟩ := ba c
  obtain ⟨c10, c⟩ := ba c
  obtain ⟨c11, c⟩ := ba c
  obtain ⟨c12, c⟩ := ba c
  obtain ⟨c13, c⟩ := ba c
  obtain ⟨c14, c⟩ := ba c
  obtain ⟨c15, c⟩ := ba c
  obtain ⟨c16, c⟩ := ba c
  obtain ⟨c17, c⟩ := ba c
  obtain ⟨c18, c⟩ := ba c
  obtain ⟨c19, c20⟩ := ba c
  refine { gC := PySem.W.mg_of X G (eqO_ok c1), cls := clsB_ok c2, sa := eqO_ok c4, ga := eqO_ok c5, gg := eqO_ok c6, noA := eqO_ok c7, noB := eqO_ok c8, iC := eqO_ok c9, tC := of_decide_eq_true c10, kC := c11, exC := of_decide_eq_true c12, tyC := of_decide_eq_true c13, hdC := c14, te := of_decide_eq_true c15, up := eqO_ok c16, own := of_decide_eq_true c17, subV := of_decide_eq_true c18, st := eqO_ok c19, sup := PySem.W.mg_none_of X G (eqO_ok c20), htop := htop, fn := ?_ }
  obtain ⟨p1, p2, p3, q1, q2, q3, q4, q5, q6, q7, r1, r2, r3, r4, t1, t2, t3, t4, ep, eb, es, el⟩ := hb
  unfold funB at c3
  unfold fnX at e
  cases hk : K.lookup (ma K (ga K d.c) "__init__") with
  | none =>
    rw [hk] at c3
    cases c3
  | some o =>
    obtain ⟨oc, od, dt, osl⟩ := o
    rw [hk] at c3 e
    cases dt with
    | func fd =>
      obtain ⟨n1, n2, n3, n4, n5, n6, n7, n8, n9, n10, n11, n12, n13, n14, n15⟩ := fd
      have e2 : (some (n1, n2, n3, n4, n5, n6, n7.map (·.1), n15) : FnV) = (some ("__init__", d.qual, d.params, .stmts d.body, d.scope, mainGlobals, ["__class__"], builtinsNs) : FnV) := e
      simp only [Option.some.injEq, Prod.mk.injEq] at e2
      obtain ⟨h1, h2, h3, h4, h5, h6, h7, h8⟩ := e2
      subst h1 h2 h3 h4 h5 h6 h8
      dsimp only at c3
      split at c3
      · rename_i cda xx cc
        obtain ⟨f1, f2⟩ := ba c3
        obtain ⟨f2, f3⟩ := ba f2
        have exx : xx = "__class__" := by
          have h7' : [xx] = (["__class__"] : List Str) := h7
          exact (List.cons.inj h7').1
        subst exx
        refine ⟨oc, od, n10, n11, n12, cda, n14, osl, cc, p1, p2, p3, q1, q2, q3, q4, q5, q6, q7, r1, r2, r3, r4, t1, t2, t3, t4, ?_, el, f1, cellB_ok f2, codeB_ok f3⟩
        rw [ep, eb, es]
      · cases c3
    | _ => cases c3
/-! ### the Hook -/
abbrev AlX : Type := AlD × List FnV × Bool
/-- the facts, the defs, the errors, further checks -/
structure Fs where
  fa : List Fa
  fn : List DefD
  xs : List XcD
  ex : PySem.W.Frag → Bool
def obsM (P : Program) (F : Fs) (K : PySem.W.Frag) : AlX := (obsD F.fa F.fn K, F.xs.map fun d => fnX K d.c, (F.xs.all fun d => xB P K d) && F.ex K)
def valM (F : Fs) : AlX := (valD F.fn, F.xs.map XcD.val, true)
def SaysM (P : Program) (F : Fs) (K : PySem.W.Frag) : Prop := obsM P F K = valM F
def obsMG (P : Program) (F : Fs) (g : Addr → Option Obj) : AlX := obsM P F (frG g (asM g))
def hookM (P : Program) (F : Fs) : PySem.W.Hook where
  α := AlX
  obs := fun s => obsMG P F s.heap.get?
  val := fun _ => valM F
  says := fun _ h => ∃ K : PySem.W.Frag, K.In h ∧ SaysM P F K
  of := fun _ _ e => ⟨_, frG_in, e⟩
  keeps := fun _ _ _ ⟨K, hK, c⟩ k => ⟨K, PySem.W.Frag.In.keeps hK k, c⟩
theorem obsMG_eq {P : Program} {F : Fs} {g : Addr → Option Obj} {s : Shared} (h : ∀ a, g a = s.heap.get? a) : obsMG P F g = (hookM P F).obs s := by
  have e : g = s.heap.get? := funext h
  rw [e] <;> rfl
/-- .. with the tables of some defs' code objects: empty, not in K -/
structure TabsOk (tf : List Defn) (h : Heap) (K : PySem.W.Frag) : Prop where
  hd : ∀ p ∈ tf, PySem.W.codeHdIn K (cT K p).1 (cT K p).2 = true
  out : ∀ p ∈ tf, K.lookup (cT K p).2 = none
  empty : ∀ p ∈ tf, h.get? (cT K p).2 = some { cls := .none, data := .fields #[] }
abbrev AlT2 : Type := AlX × Bool
def obsMT (P : Program) (F : Fs) (tf : List Defn) (g : Addr → Option Obj) : AlT2 := (obsM P F (frT g (asM g)), tabsB g tf (frT g (asM g)))
theorem saysMT_of {P : Program} {F : Fs} {tf : List Defn} {h : Heap} (e : obsMT P F tf h.get? = (valM F, true)) : SaysM P F (frT h.get? (asM h.get?)) ∧ TabsOk tf h (frT h.get? (asM h.get?)) := by
  have e1 : obsM P F (frT h.get? (asM h.get?)) = valM F := congrArg (fun z : AlT2 => z.1) e
  have h2 : tabsB h.get? tf (frT h.get? (asM h.get?)) = true := congrArg (fun z : AlT2 => z.2) e
  have key : ∀ p ∈ tf, PySem.W.codeHdIn (frT h.get? (asM h.get?)) (cT (frT h.get? (asM h.get?)) p).1 (cT (frT h.get? (asM h.get?)) p).2 = true ∧ ∃ o, h.get? (cT (frT h.get? (asM h.get?)) p).2 = some o ∧ emptyTab o = true := fun p hp => by
    obtain ⟨h3, h4⟩ := ba (List.all_eq_true.mp h2 p hp)
    refine ⟨h3, ?_⟩
    cases q : h.get? (cT (frT h.get? (asM h.get?)) p).2 with
    | none =>
      rw [q] at h4
      cases h4
    | some o =>
      rw [q] at h4
      exact ⟨o, rfl, h4⟩
  exact ⟨e1, fun p hp => (key p hp).1, fun p hp => by
    obtain ⟨_, o, q, z⟩ := key p hp
    exact frT_none q z, fun p hp => by
    obtain ⟨_, o, q, z⟩ := key p hp
    rw [q, emptyTab_eq z]⟩
def hookMT (P : Program) (F : Fs) (tf : List Defn) : PySem.W.Hook where
  α := AlT2
  obs := fun s => obsMT P F tf s.heap.get?
  val := fun _ => (valM F, true)
  says := fun _ h => ∃ K : PySem.W.Frag, K.In h ∧ SaysM P F K ∧ TabsOk tf h K
  of := fun _ _ e => ⟨_, frT_in, saysMT_of e⟩
  keeps := fun _ _ _ ⟨K, hK, c, t⟩ k => ⟨K, PySem.W.Frag.In.keeps hK k, c, ⟨t.hd, t.out, fun p hp => k _ _ (t.empty p hp)⟩⟩
theorem obsMT_eq {P : Program} {F : Fs} {tf : List Defn} {g : Addr → Option Obj} {s : Shared} (h : ∀ a, g a = s.heap.get? a) : obsMT P F tf g = (hookMT P F tf).obs s := by
  have e : g = s.heap.get? := funext h
  rw [e] <;> rfl
section
variable {P : Program} {F : Fs} {K : PySem.W.Frag}
theorem SaysM.d (c : SaysM P F K) : SaysD F.fa F.fn K := congrArg (fun z : AlX => z.1) c
theorem SaysM.x (c : SaysM P F K) (i : Nat) {d : XcD} (h : F.xs[i]? = some d := by rfl) : fnX K d.c = d.val ∧ xB P K d = true := by
  have c1 : (F.xs.map fun d => fnX K d.c) = F.xs.map XcD.val := congrArg (fun z : AlX => z.2.1) c
  have c2 : ((F.xs.all fun d => xB P K d) && F.ex K) = true := congrArg (fun z : AlX => z.2.2) c
  have e2 : (F.xs.map fun d => fnX K d.c)[i]? = (F.xs.map XcD.val)[i]? := by rw [c1]
  rw [List.getElem?_map, List.getElem?_map, h] at e2
  exact ⟨Option.some.inj e2, List.all_eq_true.mp (ba c2).1 d (List.mem_of_getElem? h)⟩
theorem SaysM.e (c : SaysM P F K) : F.ex K = true := (ba (show ((F.xs.all fun d => xB P K d) && F.ex K) = true from congrArg (fun z : AlX => z.2.2) c)).2
end
end XH
end

section
set_option Elab.async false
set_option linter.all false
set_option maxRecDepth 100000
set_option maxHeartbeats 4000000
/-! Short words over the hand layer. -/
namespace L2
open PySem PySem.Spec PyProof.Rows
section
variable {P : Program} {w : World} {K : PySem.W.Frag} {mg : Str → Option Value} {base : Heap} {x qual : Str} {params : Arguments} {body : List Stmt} {scope : Scope} {dvs : List V} {kws : List (Str × V)} {f : Addr} {fd : FuncData}
/-- a def that lets nothing out -/
theorem FunD.ok0 {N ps : List Str} {k : Nat} {sp : Sp} (F : FunD K x qual params body scope dvs kws f fd) (S : FnScope N ps scope) (len : ∀ vs H Q E, sp vs H Q E → vs.length = ps.length)
    (hbody : ∀ (cdv : Value) (A : Around) (outer : List Env) (s : Shared) (H : Hp) (vs : List V) (Q : VK) (E : XK), Room k (A.deeper (envOfC qual scope s.heap.objs.size f cdv)) → sp vs H Q E →
      ∃ t, PSs (cxOf CX0 P w K mg base N qual scope f cdv A outer s H E).nox body t ∧ t { nx := fun _ H' => Q .non H', rt := Q } (start N vs) H) : FnOk P w K mg base CX0 (k + 1) f fd ps sp :=
  F.ok S len fun cdv A outer s H vs Q E hr h => let ⟨t, a, b⟩ := hbody cdv A outer s H vs Q E hr h; ⟨t, a.nox, b⟩
/-- a def that may raise -/
theorem FunD.okX {N ps : List Str} {k : Nat} {sp : Sp} (F : FunD K x qual params body scope dvs kws f fd) (S : FnScope N ps scope) (len : ∀ vs H Q E, sp vs H Q E → vs.length = ps.length)
    (hbody : ∀ (cdv : Value) (A : Around) (outer : List Env) (s : Shared) (H : Hp) (vs : List V) (Q : VK) (E : XK), Room k (A.deeper (envOfC qual scope s.heap.objs.size f cdv)) → sp vs H Q E →
      ∃ t, PSs (cxOf (L2N.CX P w) P w K mg base N qual scope f cdv A outer s H E) body t ∧ t { nx := fun _ H' => Q .non H', rt := Q } (start N vs) H) : FnOk P w K mg base (L2N.CX P w) (k + 1) f fd ps sp :=
  F.ok S len hbody
end
section
variable {X : Cx} {E : XK}
/-- what a callee lets out is let out -/
theorem passX {E₁ : Value → Shared → Prop} (hs : X.stack = X.env :: X.outer := by rfl) (hf : X.env.frame = some X.env.locals := by rfl) (hex : X.ex = [] := by rfl)
    (hx : X.xe = fun e s' => wpAny (model X.prog X.w) X.A (leaving X.env e) (fun _ s'' => L2N.CX X.prog X.w X.outer X.H_0 X.s_0 E e s'') E₁ s' := by rfl) : Passes (L2N.CX X.prog X.w) X E :=
  L2N.passes_call (L2N.takes_of hs hf hex hx) fun _ _ _ _ h => h
end
end L2
end

section
set_option Elab.async false
set_option linter.all false
set_option maxRecDepth 100000
set_option maxHeartbeats 4000000
/-! A list comprehension where an exception is handled. -/
namespace L2H
open PySem PySem.Spec PyProof.Rows L2 HotX
/-- a comprehension's block there: the handled exception stays pinned -/
abbrev blkH (X : Cx) (s : Shared) (H : Hp) (sc : Scope) (ce : Env) (fp : List Addr) (p : Addr × Obj) : Cx := (X.blk s H sc ce fp).tr [p] fun _ _ => False
theorem hot_blkH {X : Cx} {s : Shared} {H : Hp} {sc : Scope} {ce : Env} {fp : List Addr} {p : Addr × Obj} (h : Hot1 X.A p) : HotC (blkH X s H sc ce fp p) := ⟨p, h, List.mem_cons_self⟩
section
variable {X : Cx}
theorem pe_lcH {elt tg iter : Expr} {ifs : List Expr} {sc : Scope} {own : List (Str × Nat)} {pos : Pos} {wi : TI} {g : TG} {tt : TT} {te : TE} (p : Addr × Obj) (hot : Hot1 X.A p) (hpn : p ∈ X.pn) (nd : X.N.Nodup) (hi : PIH X tg iter wi) (bk : BlkOk X.N X.env.scope sc own)
    (hg : ∀ (s : Shared) (H : Hp) (C : Addr) (cl : List (Str × Addr)) (fp : List Addr), PG (blkH X s H sc (compEnvC sc cl C X.env) fp p) tg g) (ht : ∀ (s : Shared) (H : Hp) (C : Addr) (cl : List (Str × Addr)) (fp : List Addr), PTs (blkH X s H sc (compEnvC sc cl C X.env) fp p) ifs tt)
    (he : ∀ (s : Shared) (H : Hp) (C : Addr) (cl : List (Str × Addr)) (fp : List Addr), PE (blkH X s H sc (compEnvC sc cl C X.env) fp p) elt te) (hfs : ∀ x, foldedSetIterable iter X.env x = pure x := by intro _; rfl) :
    PE X (.ListComp elt [⟨tg, iter, ifs, 0⟩] sc pos) (tLc wi g tt te (own.map (·.2))) := by
  refine ⟨fun pins s σ H Q I0 hq => ?_⟩
  rw [eval_ListComp]
  have free0 : ∀ y ∈ sc.names, y.2 = .free → ∃ c, X.env.cells.lookup y.1 = some c := fun y hy e => (bk.free y hy e).elim (fun k => I0.ok.has _ (.inl k)) fun k => I0.ok.has _ (.inr k)
  refine wpAny_comprehension_free (use := none) rfl hfs (closure_ok free0) bk.kind (fun y hy e => by rw [bk.uniq y hy, e]) (thn (hi.run pins s σ H _ I0 hq) fun xv t1 hx => thn hx fun itv t2 ht2 => ?_)
  obtain ⟨it, fp, tn, J, Ha, rfl, Ia, T, sa, fa, qa⟩ := ht2
  refine wpAny_newObj_type (newEnv_comp ?_) (by show 0 ≤ sizeLine; decide)
  generalize eD : t2.heap.objs.size = D
  obtain ⟨W, ⟨m0, w0⟩, trn⟩ := qa D (Ia.hok.fresh (Nat.le_of_eq eD))
  -- the list that is made
  generalize et3 : ({ t2 with heap := t2.heap.push { cls := .type "list", data := .seq ([] : List Value).toArray } } : Shared) = t3
  have ht3 : t3.heap = t2.heap.push { cls := .type "list", data := .seq ([] : List Value).toArray } := by rw [← et3]
  have Ib : Inv X pins σ (upd Ha D (.lst [])) t3 := by
    rw [← et3]
    refine Ia.laid (t' := t2.toks) (fun b o e => Heap.get?_push_of_some _ e) (Nat.le_of_eq eD) ⟨Nat.zero_le _, [], 0, .nil, ?_⟩
    rw [← eD]; exact Heap.get?_push_size _ rfl
  have below : ∀ b ∈ fp, b < t2.heap.objs.size := fun b hb => let ⟨_, e, _⟩ := T.obj _ _ sa b hb; Heap.lt_size e
  have fb : ∀ b ∈ fp, FpOk X pins (upd Ha D (.lst [])) b ∧ b < t3.heap.objs.size := fun b hb =>
    ⟨⟨by rw [upd_ne (by rw [← eD]; exact Nat.ne_of_lt (below b hb))]; exact (fa b hb).1, (fa b hb).2⟩, by rw [ht3, Heap.size_push]; exact Nat.lt_succ_of_lt (below b hb)⟩
  have sb : tn 0 t3.heap := T.keep _ _ _ sa fun b _ o e => by rw [ht3]; exact Heap.get?_push_of_some _ e
  have Ic0 := block_start Ib bk nd fb
  generalize eH : upd Ha D (.lst []) = Hb at Ib Ic0 w0 fb
  have pin0 := Ib.pin p (List.mem_append_left _ hpn)
  have pg := hg t3 Hb t3.heap.objs.size (cellsFrom (t3.heap.objs.size + 1) sc.names (cloFrom X.env.cells sc.names [])) fp
  have pt := ht t3 Hb t3.heap.objs.size (cellsFrom (t3.heap.objs.size + 1) sc.names (cloFrom X.env.cells sc.names [])) fp
  have pe := he t3 Hb t3.heap.objs.size (cellsFrom (t3.heap.objs.size + 1) sc.names (cloFrom X.env.cells sc.names [])) fp
  show codeAny _ _ (.compStart (.ListComp elt [⟨tg, iter, ifs, 0⟩] sc pos) 0 (.ref it) (.ref D) (compEnvC sc (cellsFrom (t3.heap.objs.size + 1) sc.names (cloFrom X.env.cells sc.names [])) t3.heap.objs.size X.env)) (compPost (model X.prog X.w) X.A X.xe none (EP X pins σ Q) (.ref D) t3.heap.objs.size) { t3 with heap := pushCells (t3.heap.push { cls := .type "dict", data := .dict #[] }) sc.names }
  have nofp : ∀ b ∈ fp, Hb b = none := fun b hb => (fb b hb).1.1
  have kept4 : ∀ b o, t3.heap.get? b = some o → (pushCells (t3.heap.push { cls := .type "dict", data := .dict #[] }) sc.names).get? b = some o := fun b o e => pushCells_keeps _ _ _ _ (Heap.get?_push_of_some _ e)
  generalize ece : compEnvC sc (cellsFrom (t3.heap.objs.size + 1) sc.names (cloFrom X.env.cells sc.names [])) t3.heap.objs.size X.env = ce at Ic0 pg pt pe ⊢
  have ceL : ce.locals = t3.heap.objs.size := by subst ece; rfl
  have Ic1 : Inv (X.blk t3 Hb sc ce fp) [p] (wipe σ (own.map (·.2))) Hb { t3 with heap := pushCells (t3.heap.push { cls := .type "dict", data := .dict #[] }) sc.names } := Ic0.pins_of fun q hq2 => by
    have eq : q = p := by simpa using hq2
    subst eq
    refine ⟨kept4 _ _ pin0.1, pin0.2.1, ?_, fun hm => (List.mem_cons.mp (Ib.stkSub q.1 hm)).elim pin0.2.2.1 pin0.2.2.2.1, pin0.2.2.2.2⟩
    show q.1 ≠ ce.locals
    rw [ceL]
    exact Nat.ne_of_lt (Heap.lt_size pin0.1)
  have Ic : Inv (blkH X t3 Hb sc ce fp p) [] (wipe σ (own.map (·.2))) Hb { t3 with heap := pushCells (t3.heap.push { cls := .type "dict", data := .dict #[] }) sc.names } := Ic1.toTry _
  generalize et4 : ({ t3 with heap := pushCells (t3.heap.push { cls := .type "dict", data := .dict #[] }) sc.names } : Shared) = t4 at Ic ⊢
  have s4 : tn 0 t4.heap := T.keep _ _ _ sb fun b _ o e => by rw [← et4]; exact kept4 b o e
  have fpk : ∀ {σ' : St} {H' : Hp} {s' : Shared}, Inv (blkH X t3 Hb sc ce fp p) [] σ' H' s' → (∀ b ∈ fp, H' b = none) → ∀ b ∈ fp, FpOk (blkH X t3 Hb sc ce fp p) [] H' b := fun {σ' H' s'} I' hn b hb =>
    ⟨hn b hb, (I'.ok.exf b hb).1, I'.ok.exfs b hb, .inl hb, fun x c e => (I'.ok.exf b hb).2 x c e, fun q hq2 => by
      have eq : q = p := by simpa using (show q ∈ [p] ++ ([] : List (Addr × Obj)) from hq2)
      rw [eq]; exact (fb b hb).1.2.2.2.2.2 p (List.mem_append_left _ hpn)⟩
  have hotb : HotC (blkH X t3 Hb sc ce fp p) := hot_blkH hot
  have turns : codeAny (model X.prog X.w) X.A (.compLoop (.ListComp elt [⟨tg, iter, ifs, 0⟩] sc pos) 0 (.ref it) (.ref D) ce) (compPost (model X.prog X.w) X.A X.xe none (EP X pins σ Q) (.ref D) t3.heap.objs.size) t4 := by
    refine compLoop_any (fun n s' => ∃ i H', Inv (blkH X t3 Hb sc ce fp p) [] (wipe σ (own.map (·.2))) H' s' ∧ tn i s'.heap ∧ (∀ b ∈ fp, H' b = none) ∧ W i n H') ?_ m0 ⟨0, Hb, Ic, s4, nofp, w0⟩
    rintro n t5 ⟨i, H5, I5, s5, n5, w5⟩
    rcases trn i n H5 w5 with ⟨stp, qs⟩ | ⟨go, Nx, hNx, stepi⟩
    · refine thnF (T.done (blkH X t3 Hb sc ce fp p) rfl rfl rfl hotb i [] t5 _ H5 (fun _ _ => False) I5 (fpk I5 n5) s5 stp) fun r t6 ⟨hr, I6⟩ => ?_
      subst hr
      have back : Inv X pins σ H5 t6 := Ib.call' (ch := fp) I6.os I6.base I6.hok I6.bare fun b hb => ⟨(fb b hb).1.2.2.2.1, (fb b hb).1.2.1, (fb b hb).1.2.2.2.2.1, (fb b hb).1.2.2.2.2.2⟩
      have nC : H5 t3.heap.objs.size = none := by
        have z : H5 ce.locals = none := I6.free
        rw [ceL] at z; exact z
      obtain ⟨m, hn, _⟩ := I6.loc
      have hn2 : t6.heap.Ns ce.locals m := hn
      rw [ceL] at hn2
      refine ⟨m, hn2, fun h'' sbt => ?_⟩
      obtain ⟨c0, c1, c2, c3, c4, c5⟩ := Ib.fpOk (Nat.le_refl t3.heap.objs.size) nC
      exact ⟨.ref D, H5, back.turned (t' := t6.toks) (fun b o hb e => (sbt.2 b hb).trans e) c0 c1 c3 c4 c5, rfl, qs⟩
    · refine thnF (T.item (blkH X t3 Hb sc ce fp p) rfl rfl rfl hotb i [] t5 _ H5 (fun _ _ => False) I5 (fpk I5 n5) s5 go) fun r t6 ⟨u, hr, h6⟩ => ?_
      subst hr
      refine thnF h6 fun _ t7 ⟨x, H7, I7, r7, y7, s7, n7⟩ => ?_
      have I7p := I7.pinned (fpk I7 n7) (T.obj _ _ s7)
      refine thnF (pg.run _ t7 _ H7 x u _ I7p r7 (stepi x H7 y7)) fun _ t8 ⟨σ8, H8, I8, hw8, q8⟩ => ?_
      refine thnF (pt.run _ t8 σ8 H8 _ I8 q8) fun b t9 ⟨H9, I9, q9⟩ => ?_
      have close : ∀ {s' : Shared} {H' : Hp}, Inv (blkH X t3 Hb sc ce fp p) ([] ++ pinsAt fp t7.heap) σ8 H' s' → Nx H' → ∃ m, m < n ∧ ∃ i H', Inv (blkH X t3 Hb sc ce fp p) [] (wipe σ (own.map (·.2))) H' s' ∧ tn i s'.heap ∧ (∀ b ∈ fp, H' b = none) ∧ W i m H' := fun {s' H'} I' nx => by
        obtain ⟨m', hm, w'⟩ := hNx H' nx
        have stay : ∀ b ∈ fp, ∀ o, t7.heap.get? b = some o → s'.heap.get? b = some o ∧ H' b = none := fun b hb o e => by
          have z := I'.pin (b, o) (List.mem_append_right _ (List.mem_append_right _ (mem_pinsAt hb e)))
          exact ⟨z.1, z.2.1⟩
        have sameL : (wipe σ (own.map (·.2))).length = σ8.length := by rw [← hw8, wipe_length]
        refine ⟨m', hm, i + 1, H', (I'.unpinned (pins := [])).weak sameL (fun j v e => by rw [← hw8] at e; exact (wipe_some e).1), T.keep _ _ _ s7 fun b hb o e => (stay b hb o e).1, fun b hb => ?_, w'⟩
        obtain ⟨o, e, _⟩ := T.obj _ _ s7 b hb
        exact (stay b hb o e).2
      cases b with
      | false => simp only [Bool.false_eq_true, if_false] at q9 ⊢; exact close I9 q9
      | true =>
        simp only [if_true] at q9 ⊢
        refine thnF (pe.run _ t9 σ8 H9 _ I9 q9) fun z tA ⟨yv, HA, IA, rA, acc, hDA, hzA, nx⟩ => ?_
        exact app_ok (X := blkH X t3 Hb sc ce fp p) IA hDA hzA rA fun tB IB => close IB nx
  exact codeAny_compStart_list turns (T.self X.A 0 _ _ _ s4 turns)
end
end L2H
end

section
set_option Elab.async false
set_option linter.all false
set_option maxRecDepth 100000
set_option maxHeartbeats 4000000
/-! Texts as lists of numbers. -/
namespace XT
open PySem PySem.Spec PyProof.Rows L2
/-! ### texts -/
def tx (l : List Nat) : Str := ⟨l.toArray⟩
theorem tx_list (l : List Nat) : (tx l).cps.toList = l := by simp [tx]
theorem tx_len (l : List Nat) : (tx l).length = l.length := by simp [tx, Str.length]
theorem tx_inj {a b : List Nat} : tx a = tx b ↔ a = b := by
  constructor
  · intro h
    have := congrArg (fun z : Str => z.cps.toList) h
    simpa [tx] using this
  · intro h; rw [h]
theorem tx_of (z : Str) : z = tx z.cps.toList := by
  obtain ⟨a⟩ := z
  simp [tx]
theorem tx_app (a b : List Nat) : tx a ++ tx b = tx (a ++ b) := by
  show (⟨(tx a).cps ++ (tx b).cps⟩ : Str) = _
  simp [tx]
theorem dec_tx (a b : List Nat) : decide (V.str (tx a) = V.str (tx b)) = decide (a = b) := by
  by_cases h : a = b
  · subst h; simp
  · have : ¬ V.str (tx a) = V.str (tx b) := fun e => h (tx_inj.mp (V.str.inj e))
    rw [decide_eq_false h, decide_eq_false this]
theorem z_sp : (" " : Str) = tx [32] := by decide +kernel
theorem z_e : ("" : Str) = tx [] := by decide +kernel
theorem z_0 : ("0" : Str) = tx [48] := by decide +kernel
theorem z_1 : ("1" : Str) = tx [49] := by decide +kernel
theorem z_9 : ("9" : Str) = tx [57] := by decide +kernel
theorem z_op : ("(" : Str) = tx [40] := by decide +kernel
theorem z_cl : (")" : Str) = tx [41] := by decide +kernel
theorem z_co : ("," : Str) = tx [44] := by decide +kernel
theorem z_to : ("->" : Str) = tx [45, 62] := by decide +kernel
theorem z_m : ("m" : Str) = tx [109] := by decide +kernel
theorem z_make : ("make" : Str) = tx [109, 97, 107, 101] := by decide +kernel
theorem z_act : ("act" : Str) = tx [97, 99, 116] := by decide +kernel
theorem z_nl : ("\n" : Str) = tx [10] := by decide +kernel
theorem z_la : ("a" : Str) = tx [97] := by decide +kernel
theorem z_lz : ("z" : Str) = tx [122] := by decide +kernel
theorem z_ga : ("A" : Str) = tx [65] := by decide +kernel
theorem z_gz : ("Z" : Str) = tx [90] := by decide +kernel
theorem z_us : ("_" : Str) = tx [95] := by decide +kernel
/-- one sign of what is left, beside a written one -/
theorem one_eq (r : List Nat) (c : Nat) : (decide (V.str (tx (r.take 1)) = V.str (tx [c])) = true) ↔ ∃ r', r = c :: r' := by
  rw [dec_tx, decide_eq_true_iff]
  cases r with
  | nil => simp
  | cons x r =>
    simp only [List.take_succ_cons, List.take_zero, List.cons.injEq, and_true]
    constructor
    · intro e; exact ⟨r, e, rfl⟩
    · rintro ⟨_, e, _⟩; exact e
/-- l[i:j], 0 ≤ i ≤ j -/
theorem cut_tx (l : List Nat) (i j : Nat) : cutS (tx l) (some (i : Int)) (some (j : Int)) = tx ((l.take j).drop i) := by
  have e1 : HT.sIx l.length 0 (some (i : Int)) = min i l.length := by
    unfold HT.sIx
    first
      | (simp; omega)
      | (split <;> omega)
  have e2 : HT.sIx l.length l.length (some (j : Int)) = min j l.length := by
    unfold HT.sIx
    first
      | (simp; omega)
      | (split <;> omega)
  unfold cutS
  rw [tx_list, tx_len, e1, e2]
  show tx _ = tx _
  congr 1
  apply List.ext_getElem?
  intro k
  simp only [List.getElem?_take, List.getElem?_drop]
  by_cases h : i ≤ l.length
  · rw [Nat.min_eq_left h]
    by_cases h2 : k < min j l.length - i
    · rw [if_pos h2, if_pos (by omega)]
    · rw [if_neg h2]
      by_cases h3 : i + k < j
      · rw [if_pos h3, List.getElem?_eq_none]
        omega
      · rw [if_neg h3]
  · have h' : min i l.length = l.length := by omega
    rw [h']
    have e3 : min j l.length - l.length = 0 := by omega
    rw [e3, if_neg (by omega)]
    by_cases h3 : i + k < j
    · rw [if_pos h3, List.getElem?_eq_none (by omega)]
    · rw [if_neg h3]
def leO (c : Nat) : List Nat → Bool
  | x :: _ => decide (c ≤ x)
  | [] => false
def geO (c : Nat) : List Nat → Bool
  | x :: _ => decide (x ≤ c)
  | [] => true
theorem one_lt (a b : Nat) : ([a] < [b]) ↔ a < b := by
  rw [List.cons_lt_cons_iff]
  simp
/-- a written sign below what comes, above it -/
theorem le_one (c : Nat) (r : List Nat) : (!decide ((tx (r.take 1)).cps.toList < (tx [c]).cps.toList)) = leO c r := by
  rw [tx_list, tx_list]
  cases r with
  | nil =>
    have : ([] : List Nat) < [c] := List.nil_lt_cons _ _
    rw [List.take_nil, decide_eq_true this]
    rfl
  | cons x r =>
    show (!decide ([x] < [c])) = decide (c ≤ x)
    by_cases h : c ≤ x
    · rw [decide_eq_true h, decide_eq_false (by rw [one_lt]; omega)]
      rfl
    · rw [decide_eq_false h, decide_eq_true (by rw [one_lt]; omega)]
      rfl
theorem ge_one (c : Nat) (r : List Nat) : (!decide ((tx [c]).cps.toList < (tx (r.take 1)).cps.toList)) = geO c r := by
  rw [tx_list, tx_list]
  cases r with
  | nil =>
    have : ¬ ([c] < ([] : List Nat)) := by simp
    rw [List.take_nil, decide_eq_false this]
    rfl
  | cons x r =>
    show (!decide ([c] < [x])) = decide (x ≤ c)
    by_cases h : x ≤ c
    · rw [decide_eq_true h, decide_eq_false (by rw [one_lt]; omega)]
      rfl
    · rw [decide_eq_false h, decide_eq_true (by rw [one_lt]; omega)]
      rfl
/-- a comprehension without a test -/
theorem yes_t {σ : L2.St} {H : Hp} {A B : Hp → Prop} (h : A H) : tYes σ H fun b H3 => if b = true then A H3 else B H3 := by
  show if true = true then A H else B H
  rw [if_pos rfl]
  exact h
/-- a written row is short -/
theorem szL {xs : List V} {n : Nat} (h : xs.length = n) (hn : n ≤ 1000) : xs.length ≤ sizeLine := by
  rw [sizeLine_eq]
  omega
/-- a text among texts -/
theorem in_strs (a : List Nat) : ∀ l : List (List Nat), inV (.str (tx a)) (l.map fun w => V.str (tx w)) = decide (a ∈ l)
  | [] => rfl
  | b :: l => by
    have ih := in_strs a l
    have e1 : eqV (V.str (tx b)) (V.str (tx a)) = decide (b = a) := by
      show ((tx b) == (tx a)) = decide (b = a)
      by_cases h : b = a
      · subst h; simp
      · rw [decide_eq_false h]
        exact beq_eq_false_iff_ne.mpr fun e => h (tx_inj.mp e)
    have e2 : inV (.str (tx a)) ((b :: l).map fun w => V.str (tx w)) = (eqV (V.str (tx b)) (V.str (tx a)) || inV (.str (tx a)) (l.map fun w => V.str (tx w))) := rfl
    rw [e2, e1, ih, ← Bool.decide_or]
    refine decide_eq_decide.mpr ?_
    rw [List.mem_cons]
    exact ⟨fun h => h.imp Eq.symm id, fun h => h.imp Eq.symm id⟩
theorem flat_strs (l : List (List Nat)) : (l.map fun w => V.str (tx w)).all flatV = true := by
  induction l with
  | nil => rfl
  | cons a l ih => simpa [flatV] using ih
/-- a for over a text -/
theorem for_text {s : List Nat} {g : TG} {tb : TS} {D : Ends} {σ : L2.St} {H : Hp} (Pv : Nat → L2.St → Hp → Prop) (h0 : Pv 0 σ H)
    (hs : ∀ i c σ H, s[i]? = some c → Pv i σ H → g (.str (tx [c])) σ H fun σ2 H2 => tb { D with nx := Pv (i + 1), ct := Pv (i + 1), bk := D.nx } σ2 H2) (hd : ∀ σ H, Pv s.length σ H → D.nx σ H) :
    ∃ W : Nat → Nat → L2.St → Hp → Prop, (∃ m, W 0 m σ H) ∧ ∀ i m σ H, W i m σ H →
      ((Its (tx s)).stop i H ∧ D.nx σ H) ∨ ((Its (tx s)).go i H ∧ ∃ N : L2.St → Hp → Prop, (∀ σ' H', N σ' H' → ∃ m', m' < m ∧ W (i + 1) m' σ' H') ∧ ∀ x H', (Its (tx s)).yld i H x H' → g x σ H' fun σ2 H2 => tb { D with nx := N, ct := N, bk := D.nx } σ2 H2) := by
  have sz : (tx s).cps.size = s.length := by simp [tx]
  refine ⟨fun i m σ H => m = s.length - i ∧ i ≤ s.length ∧ Pv i σ H, ⟨s.length, by simp, Nat.zero_le _, h0⟩, ?_⟩
  rintro i m σ H ⟨rfl, hi, p⟩
  by_cases hlt : i < s.length
  · refine .inr ⟨(by show i < (tx s).cps.size; rw [sz]; exact hlt), Pv (i + 1), fun σ' H' p' => ⟨s.length - (i + 1), by omega, rfl, hlt, p'⟩, fun x H' y => ?_⟩
    obtain ⟨e, c, hc, y⟩ := y
    subst e y
    have hc' : s[i]? = some c := by
      have : (tx s).cps[i]? = s[i]? := by simp [tx]
      rw [← this]
      exact hc
    exact hs i c σ _ hc' p
  · have e : i = s.length := by omega
    subst e
    exact .inl ⟨(by show (tx s).cps.size ≤ s.length; rw [sz]; exact Nat.le_refl _), hd σ H p⟩
/-- a for over enumerate of a list -/
theorem for_enum {K : PySem.W.Frag} {a : Addr} {xs : List V} {g : TG} {tb : TS} {D : Ends} {σ : L2.St} {H : Hp} (Pv : Nat → L2.St → Hp → Prop) (h0 : Pv 0 σ H) (hl : ∀ i σ H, i ≤ xs.length → Pv i σ H → SqL K H a xs)
    (hs : ∀ i x p σ H, xs[i]? = some x → Pv i σ H → H p = none → g (.ref p) σ (upd H p (.tup [.int (i : Nat), x])) fun σ2 H2 => tb { D with nx := Pv (i + 1), ct := Pv (i + 1), bk := D.nx } σ2 H2) (hd : ∀ σ H, Pv xs.length σ H → D.nx σ H) :
    ∃ W : Nat → Nat → L2.St → Hp → Prop, (∃ m, W 0 m σ H) ∧ ∀ i m σ H, W i m σ H →
      ((Ite K a).stop i H ∧ D.nx σ H) ∨ ((Ite K a).go i H ∧ ∃ N : L2.St → Hp → Prop, (∀ σ' H', N σ' H' → ∃ m', m' < m ∧ W (i + 1) m' σ' H') ∧ ∀ x H', (Ite K a).yld i H x H' → g x σ H' fun σ2 H2 => tb { D with nx := N, ct := N, bk := D.nx } σ2 H2) := by
  refine ⟨fun i m σ H => m = xs.length - i ∧ i ≤ xs.length ∧ Pv i σ H, ⟨xs.length, by simp, Nat.zero_le _, h0⟩, ?_⟩
  rintro i m σ H ⟨rfl, hi, p⟩
  have q := hl i σ H hi p
  by_cases hlt : i < xs.length
  · refine .inr ⟨⟨xs, xs[i], q, by simp [hlt]⟩, Pv (i + 1), fun σ' H' p' => ⟨xs.length - (i + 1), by omega, rfl, hlt, p'⟩, fun x H' y => ?_⟩
    obtain ⟨T, z, e1, hn, e2, y⟩ := y
    subst e1 e2
    exact hs i z T σ H (y xs q) p hn
  · have e : i = xs.length := by omega
    subst e
    exact .inl ⟨⟨xs, q, Nat.le_refl _⟩, hd σ H p⟩
end XT
end

section
set_option Elab.async false
set_option linter.all false
set_option maxRecDepth 100000
set_option maxHeartbeats 4000000
/-! Lines of a text: split, join. -/
namespace XT
open PySem PySem.Spec PyProof.Rows L2
/-- the lines of a text -/
def linesL : List Nat → List (List Nat)
  | [] => [[]]
  | c :: l => if c = 10 then [] :: linesL l else match linesL l with
    | x :: xs => (c :: x) :: xs
    | [] => [[c]]
/-- lines put together -/
def joinL : List (List Nat) → List Nat
  | [] => []
  | [x] => x
  | x :: y :: r => x ++ (10 :: joinL (y :: r))
theorem linesL_ne : ∀ l, linesL l ≠ []
  | [] => by simp [linesL]
  | c :: l => by
    unfold linesL
    split
    · simp
    · split <;> simp
theorem linesL_app : ∀ (x : List Nat), 10 ∉ x → ∀ r, linesL (x ++ 10 :: r) = x :: linesL r
  | [], _, r => by simp [linesL]
  | c :: x, h, r => by
    have hc : c ≠ 10 := fun e => h (by simp [e])
    have hx : 10 ∉ x := fun e => h (List.mem_cons_of_mem _ e)
    rw [List.cons_append, linesL, if_neg hc, linesL_app x hx r]
theorem linesL_one : ∀ (x : List Nat), 10 ∉ x → linesL x = [x]
  | [], _ => rfl
  | c :: x, h => by
    have hc : c ≠ 10 := fun e => h (by simp [e])
    have hx : 10 ∉ x := fun e => h (List.mem_cons_of_mem _ e)
    rw [linesL, if_neg hc, linesL_one x hx]
theorem linesL_join : ∀ (xs : List (List Nat)), xs ≠ [] → (∀ x ∈ xs, 10 ∉ x) → linesL (joinL xs) = xs
  | [], h, _ => absurd rfl h
  | [x], _, h => linesL_one x (h x (by simp))
  | x :: y :: r, _, h => by
    rw [joinL, linesL_app x (h x (by simp)), linesL_join (y :: r) (by simp) fun z hz => h z (List.mem_cons_of_mem _ hz)]
theorem join_tx : ∀ (ys : List Str), (Str.join (tx [10]) ys).cps.toList = joinL (ys.map fun y => y.cps.toList)
  | [] => rfl
  | [x] => rfl
  | x :: y :: r => by
    have ih := join_tx (y :: r)
    show ((x ++ tx [10] ++ Str.join (tx [10]) (y :: r)).cps.toList) = _
    have e : ∀ a b : Str, (a ++ b).cps.toList = a.cps.toList ++ b.cps.toList := fun a b => by
      show (a.cps ++ b.cps).toList = _
      simp
    rw [e, e, ih, tx_list]
    show x.cps.toList ++ [10] ++ joinL (y.cps.toList :: r.map fun y => y.cps.toList) = x.cps.toList ++ (10 :: joinL (y.cps.toList :: r.map fun y => y.cps.toList))
    simp
/-- split at line feeds -/
theorem split_lines (l : List Nat) : Txt.split (tx l) (tx [10]) = (linesL l).map tx := by
  have h1 := StrLaws.join_split (tx l) (tx [10])
  have h2 := StrLaws.split_free (tx l) 10
  have h3 := split_pos (tx l) (tx [10])
  have e := join_tx (Txt.split (tx l) (tx [10]))
  rw [h1, tx_list] at e
  have ne : (Txt.split (tx l) (tx [10])).map (fun y => y.cps.toList) ≠ [] := by
    intro z
    rw [List.map_eq_nil_iff] at z
    rw [z] at h3
    simp at h3
  have fr : ∀ x ∈ (Txt.split (tx l) (tx [10])).map (fun y => y.cps.toList), 10 ∉ x := by
    intro x hx
    obtain ⟨p, hp, rfl⟩ := List.mem_map.mp hx
    exact h2 p hp
  have e2 := linesL_join _ ne fr
  rw [← e] at e2
  rw [e2, List.map_map]
  have : (tx ∘ fun y : Str => y.cps.toList) = id := by
    funext y
    exact (tx_of y).symm
  rw [this, List.map_id]
/-- '\n'.join -/
theorem glued_tx : ∀ (xs : List (List Nat)), Txt.join (tx [10]) (xs.map tx) = tx (joinL xs) := by
  intro xs
  have g : ∀ (ys : List (List Nat)) (acc : Array Nat), (ys.map tx).foldl (fun acc p => acc ++ (tx [10]).cps ++ p.cps) acc = (acc.toList ++ (ys.flatMap fun y => 10 :: y)).toArray := by
    intro ys
    induction ys with
    | nil => intro acc; simp
    | cons y r ih =>
      intro acc
      rw [List.map_cons, List.foldl_cons, ih]
      simp [tx]
  have j : ∀ (x : List Nat) (r : List (List Nat)), joinL (x :: r) = x ++ (r.flatMap fun y => 10 :: y) := by
    intro x r
    induction r generalizing x with
    | nil => simp [joinL]
    | cons y r ih =>
      rw [joinL, ih y]
      simp
  cases xs with
  | nil => rfl
  | cons x r =>
    show (⟨((x :: r).map tx |>.drop 1).foldl (fun acc p => acc ++ (tx [10]).cps ++ p.cps) ((x :: r).map tx |>.headD Str.empty).cps⟩ : Str) = _
    have e1 : ((x :: r).map tx).drop 1 = r.map tx := by simp
    have e2 : (((x :: r).map tx).headD Str.empty).cps = (tx x).cps := rfl
    rw [e1, e2, g, j]
    simp [tx]
end XT
end

section
set_option Elab.async false
set_option linter.all false
set_option maxRecDepth 100000
set_option maxHeartbeats 0
/-! The text by places, and what its top leaves. Printed by wip/mk.py. -/
namespace K29
open PySem PySem.Spec PyProof.Rows L2
/-- the i-th row of the text's top -/
def top (i : Nat) : Stmt := PySem.Challenge.pw_outlived_k29_transcripts_that_are_none.main.body.getD i (.Pass ⟨0, 0, 0, 0⟩)
abbrev sNamesInit : Stmt := inClass (top 6) 0
abbrev sNamesParts : Stmt := inClass (top 6) 1
abbrev sNamesPathOf : Stmt := inClass (top 6) 2
abbrev sStandInit : Stmt := inClass (top 7) 0
abbrev sMakerInit : Stmt := inClass (top 14) 0
abbrev sLayout : Stmt := top 15
abbrev sCheckInit : Stmt := inClass (top 18) 0
abbrev sCheckKinds : Stmt := top 21
abbrev sCheckMaker : Stmt := top 22
abbrev sPartsInAll : Stmt := top 25
abbrev sMistakes : Stmt := top 26
abbrev sSound : Stmt := top 27
abbrev sIsSmall : Stmt := top 30
abbrev sIsGreat : Stmt := top 31
abbrev sInRow : Stmt := top 32
abbrev sActingInit : Stmt := inClass (top 39) 0
abbrev sActingMade : Stmt := inClass (top 39) 2
abbrev sDoingInit : Stmt := inClass (top 40) 0
abbrev sWalkInit : Stmt := inClass (top 45) 0
abbrev sLineInit : Stmt := inClass (top 48) 0
abbrev sLineNow : Stmt := inClass (top 48) 1
abbrev sLineRefuse : Stmt := inClass (top 48) 2
abbrev sLineBlanks : Stmt := inClass (top 48) 3
abbrev sLineGap : Stmt := inClass (top 48) 4
abbrev sLineTake : Stmt := inClass (top 48) 5
abbrev sLineFigure : Stmt := inClass (top 48) 6
abbrev sLineWord : Stmt := inClass (top 48) 7
abbrev sLineHanded : Stmt := inClass (top 48) 8
abbrev sReadLine : Stmt := top 49
abbrev sToldLines : Stmt := top 50
abbrev sReadTranscript : Stmt := top 51
abbrev sChecked : Stmt := top 52
abbrev sLawDraw : Stmt := top 54
abbrev sLawPick : Stmt := top 55
abbrev sLawName : Stmt := top 56
abbrev sLawLike : Stmt := top 57
abbrev sLawWild : Stmt := top 58
abbrev sLawBlanks : Stmt := top 59
abbrev sLawSpelled : Stmt := top 60
abbrev sLawSigns : Stmt := top 61
abbrev sLawBent : Stmt := top 62
abbrev sLawRefused : Stmt := top 63
abbrev sLawRead : Stmt := top 64
abbrev sLaw : Stmt := top 65
def dNamesInit : He.DefD := ⟨("Names", some "__init__"), "__init__", "Names.__init__", defArgs sNamesInit, defBody sNamesInit, defScope sNamesInit, [], []⟩
def dNamesParts : He.DefD := ⟨("Names", some "_parts"), "_parts", "Names._parts", defArgs sNamesParts, defBody sNamesParts, defScope sNamesParts, [], []⟩
def dNamesPathOf : He.DefD := ⟨("Names", some "path_of"), "path_of", "Names.path_of", defArgs sNamesPathOf, defBody sNamesPathOf, defScope sNamesPathOf, [], []⟩
def dStandInit : He.DefD := ⟨("Stand", some "__init__"), "__init__", "Stand.__init__", defArgs sStandInit, defBody sStandInit, defScope sStandInit, [], []⟩
def dMakerInit : He.DefD := ⟨("Maker", some "__init__"), "__init__", "Maker.__init__", defArgs sMakerInit, defBody sMakerInit, defScope sMakerInit, [], []⟩
def dLayout : He.DefD := ⟨("layout", none), "layout", "layout", defArgs sLayout, defBody sLayout, defScope sLayout, [], []⟩
def dCheckInit : He.DefD := ⟨("Check", some "__init__"), "__init__", "Check.__init__", defArgs sCheckInit, defBody sCheckInit, defScope sCheckInit, [], []⟩
def dCheckKinds : He.DefD := ⟨("check_kinds", none), "check_kinds", "check_kinds", defArgs sCheckKinds, defBody sCheckKinds, defScope sCheckKinds, [], []⟩
def dCheckMaker : He.DefD := ⟨("check_maker", none), "check_maker", "check_maker", defArgs sCheckMaker, defBody sCheckMaker, defScope sCheckMaker, [], []⟩
def dPartsInAll : He.DefD := ⟨("parts_in_all", none), "parts_in_all", "parts_in_all", defArgs sPartsInAll, defBody sPartsInAll, defScope sPartsInAll, [], []⟩
def dMistakes : He.DefD := ⟨("mistakes", none), "mistakes", "mistakes", defArgs sMistakes, defBody sMistakes, defScope sMistakes, [], []⟩
def dSound : He.DefD := ⟨("sound", none), "sound", "sound", defArgs sSound, defBody sSound, defScope sSound, [], []⟩
def dIsSmall : He.DefD := ⟨("is_small", none), "is_small", "is_small", defArgs sIsSmall, defBody sIsSmall, defScope sIsSmall, [], []⟩
def dIsGreat : He.DefD := ⟨("is_great", none), "is_great", "is_great", defArgs sIsGreat, defBody sIsGreat, defScope sIsGreat, [], []⟩
def dInRow : He.DefD := ⟨("in_row", none), "in_row", "in_row", defArgs sInRow, defBody sInRow, defScope sInRow, [], []⟩
def dActingInit : He.DefD := ⟨("Acting", some "__init__"), "__init__", "Acting.__init__", defArgs sActingInit, defBody sActingInit, defScope sActingInit, [], []⟩
def dActingMade : He.DefD := ⟨("Acting", some "made"), "made", "Acting.made", defArgs sActingMade, defBody sActingMade, defScope sActingMade, [], []⟩
def dDoingInit : He.DefD := ⟨("Doing", some "__init__"), "__init__", "Doing.__init__", defArgs sDoingInit, defBody sDoingInit, defScope sDoingInit, [], []⟩
def dWalkInit : He.DefD := ⟨("Walk", some "__init__"), "__init__", "Walk.__init__", defArgs sWalkInit, defBody sWalkInit, defScope sWalkInit, [], []⟩
def dLineInit : He.DefD := ⟨("Line", some "__init__"), "__init__", "Line.__init__", defArgs sLineInit, defBody sLineInit, defScope sLineInit, [], []⟩
def dLineNow : He.DefD := ⟨("Line", some "now"), "now", "Line.now", defArgs sLineNow, defBody sLineNow, defScope sLineNow, [], []⟩
def dLineRefuse : He.DefD := ⟨("Line", some "refuse"), "refuse", "Line.refuse", defArgs sLineRefuse, defBody sLineRefuse, defScope sLineRefuse, [], []⟩
def dLineBlanks : He.DefD := ⟨("Line", some "blanks"), "blanks", "Line.blanks", defArgs sLineBlanks, defBody sLineBlanks, defScope sLineBlanks, [], []⟩
def dLineGap : He.DefD := ⟨("Line", some "gap"), "gap", "Line.gap", defArgs sLineGap, defBody sLineGap, defScope sLineGap, [], []⟩
def dLineTake : He.DefD := ⟨("Line", some "take"), "take", "Line.take", defArgs sLineTake, defBody sLineTake, defScope sLineTake, [], []⟩
def dLineFigure : He.DefD := ⟨("Line", some "figure"), "figure", "Line.figure", defArgs sLineFigure, defBody sLineFigure, defScope sLineFigure, [], []⟩
def dLineWord : He.DefD := ⟨("Line", some "word"), "word", "Line.word", defArgs sLineWord, defBody sLineWord, defScope sLineWord, [], []⟩
def dLineHanded : He.DefD := ⟨("Line", some "handed"), "handed", "Line.handed", defArgs sLineHanded, defBody sLineHanded, defScope sLineHanded, [], []⟩
def dReadLine : He.DefD := ⟨("read_line", none), "read_line", "read_line", defArgs sReadLine, defBody sReadLine, defScope sReadLine, [], []⟩
def dToldLines : He.DefD := ⟨("told_lines", none), "told_lines", "told_lines", defArgs sToldLines, defBody sToldLines, defScope sToldLines, [], []⟩
def dReadTranscript : He.DefD := ⟨("read_transcript", none), "read_transcript", "read_transcript", defArgs sReadTranscript, defBody sReadTranscript, defScope sReadTranscript, [], []⟩
def dChecked : He.DefD := ⟨("checked", none), "checked", "checked", defArgs sChecked, defBody sChecked, defScope sChecked, [], []⟩
def dLawDraw : He.DefD := ⟨("_law_draw", none), "_law_draw", "_law_draw", defArgs sLawDraw, defBody sLawDraw, defScope sLawDraw, [], []⟩
def dLawPick : He.DefD := ⟨("_law_pick", none), "_law_pick", "_law_pick", defArgs sLawPick, defBody sLawPick, defScope sLawPick, [], []⟩
def dLawName : He.DefD := ⟨("_law_name", none), "_law_name", "_law_name", defArgs sLawName, defBody sLawName, defScope sLawName, [], []⟩
def dLawLike : He.DefD := ⟨("_law_like", none), "_law_like", "_law_like", defArgs sLawLike, defBody sLawLike, defScope sLawLike, [], []⟩
def dLawWild : He.DefD := ⟨("_law_wild", none), "_law_wild", "_law_wild", defArgs sLawWild, defBody sLawWild, defScope sLawWild, [], []⟩
def dLawBlanks : He.DefD := ⟨("_law_blanks", none), "_law_blanks", "_law_blanks", defArgs sLawBlanks, defBody sLawBlanks, defScope sLawBlanks, [], []⟩
def dLawSpelled : He.DefD := ⟨("_law_spelled", none), "_law_spelled", "_law_spelled", defArgs sLawSpelled, defBody sLawSpelled, defScope sLawSpelled, [], []⟩
def dLawSigns : He.DefD := ⟨("_law_signs", none), "_law_signs", "_law_signs", defArgs sLawSigns, defBody sLawSigns, defScope sLawSigns, [], []⟩
def dLawBent : He.DefD := ⟨("_law_bent", none), "_law_bent", "_law_bent", defArgs sLawBent, defBody sLawBent, defScope sLawBent, [], []⟩
def dLawRefused : He.DefD := ⟨("_law_refused", none), "_law_refused", "_law_refused", defArgs sLawRefused, defBody sLawRefused, defScope sLawRefused, [], []⟩
def dLawRead : He.DefD := ⟨("_law_read", none), "_law_read", "_law_read", defArgs sLawRead, defBody sLawRead, defScope sLawRead, [], []⟩
def dLaw : He.DefD := ⟨("law", none), "law", "law", defArgs sLaw, defBody sLaw, defScope sLaw, [], []⟩
def fn0 : List He.DefD := [dNamesInit, dNamesParts, dNamesPathOf, dStandInit, dMakerInit, dLayout, dCheckInit, dCheckKinds, dCheckMaker, dPartsInAll, dMistakes, dSound, dIsSmall, dIsGreat, dInRow, dActingInit, dActingMade, dDoingInit, dWalkInit, dLineInit, dLineNow, dLineRefuse, dLineBlanks, dLineGap, dLineTake, dLineFigure, dLineWord, dLineHanded, dReadLine, dToldLines]
def fn1 : List He.DefD := [dReadTranscript, dChecked, dLawDraw, dLawPick, dLawName, dLawLike, dLawWild, dLawBlanks, dLawSpelled, dLawSigns, dLawBent, dLawRefused, dLawRead, dLaw]
def fn : List He.DefD := fn0 ++ fn1
def fa0 : List He.Fa := [.glo "layout", .glo "check_kinds", .glo "check_maker", .glo "parts_in_all", .glo "mistakes", .glo "sound", .glo "is_small", .glo "is_great", .glo "in_row", .glo "read_line", .glo "told_lines", .glo "read_transcript", .glo "checked", .glo "_law_draw", .glo "_law_pick", .glo "_law_name", .glo "_law_like", .glo "_law_wild", .glo "_law_blanks", .glo "_law_spelled", .glo "_law_signs", .glo "_law_bent", .glo "_law_refused", .glo "_law_read", .glo "law", .glo "Names", .cls "Names", .noat "Names" "acts", .noat "Names" "kinds", .noat "Names" "makers"]
def fa1 : List He.Fa := [.noat "Names" "owners", .noat "Names" "rooms", .noat "Names" "seats", .mkr "Names", .meth "Names" "_parts", .meth "Names" "path_of", .glo "Stand", .cls "Stand", .noat "Stand" "givens", .noat "Stand" "limit", .noat "Stand" "names", .noat "Stand" "place", .mkr "Stand", .glo "Maker", .cls "Maker", .noat "Maker" "acts", .noat "Maker" "firsts", .noat "Maker" "inner", .noat "Maker" "kinds", .noat "Maker" "many", .noat "Maker" "path", .noat "Maker" "place", .noat "Maker" "variables", .mkr "Maker", .glo "Check", .cls "Check", .noat "Check" "names", .noat "Check" "place", .noat "Check" "rows", .noat "Check" "stand"]
def fa2 : List He.Fa := [.mkr "Check", .glo "Acting", .cls "Acting", .noat "Acting" "codes", .noat "Acting" "firsts", .noat "Acting" "plan", .mkr "Acting", .meth "Acting" "made", .glo "Doing", .cls "Doing", .noat "Doing" "at", .noat "Doing" "code", .noat "Doing" "codes", .noat "Doing" "events", .noat "Doing" "givens", .noat "Doing" "place", .noat "Doing" "rows", .noat "Doing" "stack", .noat "Doing" "waiting", .mkr "Doing", .glo "Walk", .cls "Walk", .noat "Walk" "aboves", .noat "Walk" "acting", .noat "Walk" "paths", .noat "Walk" "plan", .noat "Walk" "rows", .mkr "Walk", .glo "Line", .cls "Line"]
def fa3 : List He.Fa := [.noat "Line" "at", .noat "Line" "number", .noat "Line" "text", .mkr "Line", .meth "Line" "now", .meth "Line" "refuse", .meth "Line" "blanks", .meth "Line" "gap", .meth "Line" "take", .meth "Line" "figure", .meth "Line" "word", .meth "Line" "handed", .free "len", .free "range", .free "enumerate", .free "int", .free "str", .free "list", .free "tuple", .free "sorted", .free "set", .free "isinstance", .free "bool", .free "ord", .glo "WORDS"]
def fa : List He.Fa := fa0 ++ fa1 ++ fa2 ++ fa3
abbrev sBadTextInit : Stmt := inClass (top 2) 0
def xBadTextInit : XH.XcD := ⟨"BadText", "BadText.__init__", defArgs sBadTextInit, defBody sBadTextInit, defScope sBadTextInit⟩
def xs : List XH.XcD := [xBadTextInit]
def exB (K : PySem.W.Frag) : Bool := He.tupB K "WORDS" [.str "kind", .str "var", .str "make", .str "act", .str "if", .str "then", .str "else", .str "do", .str "answer", .str "and", .str "or", .str "not"]
def Fz : XH.Fs := ⟨fa, fn, xs, exB⟩
def loose0 : List Str := ["OutlivedError", "BadText", "BadProgram", "BadCall", "Names", "Stand", "chain_of", "coded", "_coded_part", "deeds_coded", "_plain_coded", "Act", "Maker", "layout", "act_of", "Check", "unlike", "first_word", "check_kinds", "check_maker", "check_act", "written_out", "parts_in_all", "mistakes", "sound", "WORDS", "is_small", "is_great", "in_row", "Coder"]
def loose1 : List Str := ["value_code", "test_code", "act_code", "Acting", "Doing", "kinds_asked", "good_call", "way_to", "Walk", "tree_of", "Line", "read_line", "told_lines", "read_transcript", "checked", "_law_draw", "_law_pick", "_law_name", "_law_like", "_law_wild", "_law_blanks", "_law_spelled", "_law_signs", "_law_bent", "_law_refused", "_law_read"]
def loose : List Str := loose0 ++ loose1
-- law stands at 65

abbrev Pg : Program := PySem.Challenge.pw_outlived_k29_transcripts_that_are_none
abbrev R : PySem.W.OpenRow := PySem.W.OpenLaw.row PySem.Challenge.rw_outlived_k29_transcripts_that_are_none
abbrev tf : List He.Defn := [("Names", some "path_of"), ("Maker", some "__init__")]
abbrev hk : PySem.W.Hook := XH.hookMT Pg Fz tf
def ob (s : PySem.W.SharedT) : XH.AlT2 := XH.obsMT Pg Fz tf (HandSHeadRun.getT s)
theorem ob_eq (s : PySem.W.SharedT) : ob s = hk.obs s.abs := XH.obsMT_eq (HandSHeadRun.getT_eq s)
theorem run (w : World) : HandSHeadRun.RunEq R (PySem.W.view R.prog [65]) hk ob 6000 loose w := by
  intro os
  kernel_rfl
end K29
end

section
set_option Elab.async false
set_option linter.all false
set_option maxRecDepth 100000
set_option maxHeartbeats 4000000
namespace K29
open PySem PySem.Spec PyProof.Rows L2
/-- what the walks lean on -/
structure Txt (K : PySem.W.Frag) (mg : Str → Option Value) : Prop where
  c : XH.SaysM Pg Fz K
  h : ∃ hp : Heap, K.In hp ∧ hp.Ns mainGlobals mg
section
variable {K : PySem.W.Frag} {mg : Str → Option Value}
theorem Txt.g (T : Txt K mg) (i : Nat) {x : Str} (e : fa[i]? = some (.glo x) := by rfl) : mg x = some (.ref (He.ga K x)) := let ⟨_, X, G⟩ := T.h; He.glo_ok X G (T.c.d.fact i e)
theorem Txt.n (T : Txt K mg) (i : Nat) {x : Str} (e : fa[i]? = some (.free x) := by rfl) : mg x = none := let ⟨_, X, G⟩ := T.h; He.free_ok X G (T.c.d.fact i e)
theorem Txt.cl (T : Txt K mg) (i : Nat) {x : Str} (e : fa[i]? = some (.cls x) := by rfl) : Cls K (He.ga K x) := He.cls_ok (T.c.d.fact i e)
theorem Txt.na (T : Txt K mg) (i : Nat) {x f : Str} (e : fa[i]? = some (.noat x f) := by rfl) : NoAttr K (He.ga K x) f := He.noat_ok (T.c.d.fact i e)
theorem Txt.me (T : Txt K mg) (i : Nat) {x m : Str} (e : fa[i]? = some (.meth x m) := by rfl) : Meth K (He.ga K x) m (He.ma K (He.ga K x) m) := He.meth_ok (T.c.d.fact i e)
theorem Txt.mk' (T : Txt K mg) (i : Nat) {x : Str} (e : fa[i]? = some (.mkr x) := by rfl) : Mk K (He.ga K x) (He.ma K (He.ga K x) "__init__") := He.mkr_ok (T.c.d.fact i e)
/-- the function object of a def -/
def fdK (K : PySem.W.Frag) (p : Str × Option Str) : FuncData := match K.lookup (He.fAd K p) with
  | some ⟨_, _, .func fd, _⟩ => fd
  | _ => PySem.W.fnOf "" "" { posonlyargs := [], args := [], vararg := none, kwonlyargs := [], kw_defaults := [], kwarg := none, defaults := [] } [] { kind := .function, names := [], isGenerator := false, isCoroutine := false } .none .none .none .none none .none .none
theorem fdK_of {p : Str × Option Str} {oc : Value} {od : Option Addr} {fd : FuncData} {sl : Array (Option Value)} (h : K.lookup (He.fAd K p) = some ⟨oc, od, .func fd, sl⟩) : fdK K p = fd := by unfold fdK; rw [h]
theorem Txt.f (T : Txt K mg) (i : Nat) {d : He.DefD} (e : fn[i]? = some d := by rfl) : FunD K d.name d.qual d.params d.body d.scope (d.dvs K) (d.kws K) (He.fAd K d.at_) (fdK K d.at_) := by
  obtain ⟨fd, F⟩ := T.c.d.def_ i e
  have G := F.ex
  obtain ⟨oc, od, dV, kV, doc, pm, an, cdv, ct, osl, _, lk, _⟩ := G
  rw [fdK_of lk]
  exact F
theorem gLayout (T : Txt K mg) : mg "layout" = some (.ref (He.ga K "layout")) := T.g 0
theorem gCheckKinds (T : Txt K mg) : mg "check_kinds" = some (.ref (He.ga K "check_kinds")) := T.g 1
theorem gCheckMaker (T : Txt K mg) : mg "check_maker" = some (.ref (He.ga K "check_maker")) := T.g 2
theorem gPartsInAll (T : Txt K mg) : mg "parts_in_all" = some (.ref (He.ga K "parts_in_all")) := T.g 3
theorem gMistakes (T : Txt K mg) : mg "mistakes" = some (.ref (He.ga K "mistakes")) := T.g 4
theorem gSound (T : Txt K mg) : mg "sound" = some (.ref (He.ga K "sound")) := T.g 5
theorem gIsSmall (T : Txt K mg) : mg "is_small" = some (.ref (He.ga K "is_small")) := T.g 6
theorem gIsGreat (T : Txt K mg) : mg "is_great" = some (.ref (He.ga K "is_great")) := T.g 7
theorem gInRow (T : Txt K mg) : mg "in_row" = some (.ref (He.ga K "in_row")) := T.g 8
theorem gReadLine (T : Txt K mg) : mg "read_line" = some (.ref (He.ga K "read_line")) := T.g 9
theorem gToldLines (T : Txt K mg) : mg "told_lines" = some (.ref (He.ga K "told_lines")) := T.g 10
theorem gReadTranscript (T : Txt K mg) : mg "read_transcript" = some (.ref (He.ga K "read_transcript")) := T.g 11
theorem gChecked (T : Txt K mg) : mg "checked" = some (.ref (He.ga K "checked")) := T.g 12
theorem gLawDraw (T : Txt K mg) : mg "_law_draw" = some (.ref (He.ga K "_law_draw")) := T.g 13
theorem gLawPick (T : Txt K mg) : mg "_law_pick" = some (.ref (He.ga K "_law_pick")) := T.g 14
theorem gLawName (T : Txt K mg) : mg "_law_name" = some (.ref (He.ga K "_law_name")) := T.g 15
theorem gLawLike (T : Txt K mg) : mg "_law_like" = some (.ref (He.ga K "_law_like")) := T.g 16
theorem gLawWild (T : Txt K mg) : mg "_law_wild" = some (.ref (He.ga K "_law_wild")) := T.g 17
theorem gLawBlanks (T : Txt K mg) : mg "_law_blanks" = some (.ref (He.ga K "_law_blanks")) := T.g 18
theorem gLawSpelled (T : Txt K mg) : mg "_law_spelled" = some (.ref (He.ga K "_law_spelled")) := T.g 19
theorem gLawSigns (T : Txt K mg) : mg "_law_signs" = some (.ref (He.ga K "_law_signs")) := T.g 20
theorem gLawBent (T : Txt K mg) : mg "_law_bent" = some (.ref (He.ga K "_law_bent")) := T.g 21
theorem gLawRefused (T : Txt K mg) : mg "_law_refused" = some (.ref (He.ga K "_law_refused")) := T.g 22
theorem gLawRead (T : Txt K mg) : mg "_law_read" = some (.ref (He.ga K "_law_read")) := T.g 23
theorem gLaw (T : Txt K mg) : mg "law" = some (.ref (He.ga K "law")) := T.g 24
theorem gNames (T : Txt K mg) : mg "Names" = some (.ref (He.ga K "Names")) := T.g 25
theorem clNames (T : Txt K mg) : Cls K (He.ga K "Names") := T.cl 26
theorem naNames_acts (T : Txt K mg) : NoAttr K (He.ga K "Names") "acts" := T.na 27
theorem naNames_kinds (T : Txt K mg) : NoAttr K (He.ga K "Names") "kinds" := T.na 28
theorem naNames_makers (T : Txt K mg) : NoAttr K (He.ga K "Names") "makers" := T.na 29
theorem naNames_owners (T : Txt K mg) : NoAttr K (He.ga K "Names") "owners" := T.na 30
theorem naNames_rooms (T : Txt K mg) : NoAttr K (He.ga K "Names") "rooms" := T.na 31
theorem naNames_seats (T : Txt K mg) : NoAttr K (He.ga K "Names") "seats" := T.na 32
theorem mkNames (T : Txt K mg) : Mk K (He.ga K "Names") (He.ma K (He.ga K "Names") "__init__") := T.mk' 33
theorem meNames__parts (T : Txt K mg) : Meth K (He.ga K "Names") "_parts" (He.ma K (He.ga K "Names") "_parts") := T.me 34
theorem meNames_path_of (T : Txt K mg) : Meth K (He.ga K "Names") "path_of" (He.ma K (He.ga K "Names") "path_of") := T.me 35
theorem gStand (T : Txt K mg) : mg "Stand" = some (.ref (He.ga K "Stand")) := T.g 36
theorem clStand (T : Txt K mg) : Cls K (He.ga K "Stand") := T.cl 37
theorem naStand_givens (T : Txt K mg) : NoAttr K (He.ga K "Stand") "givens" := T.na 38
theorem naStand_limit (T : Txt K mg) : NoAttr K (He.ga K "Stand") "limit" := T.na 39
theorem naStand_names (T : Txt K mg) : NoAttr K (He.ga K "Stand") "names" := T.na 40
theorem naStand_place (T : Txt K mg) : NoAttr K (He.ga K "Stand") "place" := T.na 41
theorem mkStand (T : Txt K mg) : Mk K (He.ga K "Stand") (He.ma K (He.ga K "Stand") "__init__") := T.mk' 42
theorem gMaker (T : Txt K mg) : mg "Maker" = some (.ref (He.ga K "Maker")) := T.g 43
theorem clMaker (T : Txt K mg) : Cls K (He.ga K "Maker") := T.cl 44
theorem naMaker_acts (T : Txt K mg) : NoAttr K (He.ga K "Maker") "acts" := T.na 45
theorem naMaker_firsts (T : Txt K mg) : NoAttr K (He.ga K "Maker") "firsts" := T.na 46
theorem naMaker_inner (T : Txt K mg) : NoAttr K (He.ga K "Maker") "inner" := T.na 47
theorem naMaker_kinds (T : Txt K mg) : NoAttr K (He.ga K "Maker") "kinds" := T.na 48
theorem naMaker_many (T : Txt K mg) : NoAttr K (He.ga K "Maker") "many" := T.na 49
theorem naMaker_path (T : Txt K mg) : NoAttr K (He.ga K "Maker") "path" := T.na 50
theorem naMaker_place (T : Txt K mg) : NoAttr K (He.ga K "Maker") "place" := T.na 51
theorem naMaker_variables (T : Txt K mg) : NoAttr K (He.ga K "Maker") "variables" := T.na 52
theorem mkMaker (T : Txt K mg) : Mk K (He.ga K "Maker") (He.ma K (He.ga K "Maker") "__init__") := T.mk' 53
theorem gCheck (T : Txt K mg) : mg "Check" = some (.ref (He.ga K "Check")) := T.g 54
theorem clCheck (T : Txt K mg) : Cls K (He.ga K "Check") := T.cl 55
theorem naCheck_names (T : Txt K mg) : NoAttr K (He.ga K "Check") "names" := T.na 56
theorem naCheck_place (T : Txt K mg) : NoAttr K (He.ga K "Check") "place" := T.na 57
theorem naCheck_rows (T : Txt K mg) : NoAttr K (He.ga K "Check") "rows" := T.na 58
theorem naCheck_stand (T : Txt K mg) : NoAttr K (He.ga K "Check") "stand" := T.na 59
theorem mkCheck (T : Txt K mg) : Mk K (He.ga K "Check") (He.ma K (He.ga K "Check") "__init__") := T.mk' 60
theorem gActing (T : Txt K mg) : mg "Acting" = some (.ref (He.ga K "Acting")) := T.g 61
theorem clActing (T : Txt K mg) : Cls K (He.ga K "Acting") := T.cl 62
theorem naActing_codes (T : Txt K mg) : NoAttr K (He.ga K "Acting") "codes" := T.na 63
theorem naActing_firsts (T : Txt K mg) : NoAttr K (He.ga K "Acting") "firsts" := T.na 64
theorem naActing_plan (T : Txt K mg) : NoAttr K (He.ga K "Acting") "plan" := T.na 65
theorem mkActing (T : Txt K mg) : Mk K (He.ga K "Acting") (He.ma K (He.ga K "Acting") "__init__") := T.mk' 66
theorem meActing_made (T : Txt K mg) : Meth K (He.ga K "Acting") "made" (He.ma K (He.ga K "Acting") "made") := T.me 67
theorem gDoing (T : Txt K mg) : mg "Doing" = some (.ref (He.ga K "Doing")) := T.g 68
theorem clDoing (T : Txt K mg) : Cls K (He.ga K "Doing") := T.cl 69
theorem naDoing_at (T : Txt K mg) : NoAttr K (He.ga K "Doing") "at" := T.na 70
theorem naDoing_code (T : Txt K mg) : NoAttr K (He.ga K "Doing") "code" := T.na 71
theorem naDoing_codes (T : Txt K mg) : NoAttr K (He.ga K "Doing") "codes" := T.na 72
theorem naDoing_events (T : Txt K mg) : NoAttr K (He.ga K "Doing") "events" := T.na 73
theorem naDoing_givens (T : Txt K mg) : NoAttr K (He.ga K "Doing") "givens" := T.na 74
theorem naDoing_place (T : Txt K mg) : NoAttr K (He.ga K "Doing") "place" := T.na 75
theorem naDoing_rows (T : Txt K mg) : NoAttr K (He.ga K "Doing") "rows" := T.na 76
theorem naDoing_stack (T : Txt K mg) : NoAttr K (He.ga K "Doing") "stack" := T.na 77
theorem naDoing_waiting (T : Txt K mg) : NoAttr K (He.ga K "Doing") "waiting" := T.na 78
theorem mkDoing (T : Txt K mg) : Mk K (He.ga K "Doing") (He.ma K (He.ga K "Doing") "__init__") := T.mk' 79
theorem gWalk (T : Txt K mg) : mg "Walk" = some (.ref (He.ga K "Walk")) := T.g 80
theorem clWalk (T : Txt K mg) : Cls K (He.ga K "Walk") := T.cl 81
theorem naWalk_aboves (T : Txt K mg) : NoAttr K (He.ga K "Walk") "aboves" := T.na 82
theorem naWalk_acting (T : Txt K mg) : NoAttr K (He.ga K "Walk") "acting" := T.na 83
theorem naWalk_paths (T : Txt K mg) : NoAttr K (He.ga K "Walk") "paths" := T.na 84
theorem naWalk_plan (T : Txt K mg) : NoAttr K (He.ga K "Walk") "plan" := T.na 85
theorem naWalk_rows (T : Txt K mg) : NoAttr K (He.ga K "Walk") "rows" := T.na 86
theorem mkWalk (T : Txt K mg) : Mk K (He.ga K "Walk") (He.ma K (He.ga K "Walk") "__init__") := T.mk' 87
theorem gLine (T : Txt K mg) : mg "Line" = some (.ref (He.ga K "Line")) := T.g 88
theorem clLine (T : Txt K mg) : Cls K (He.ga K "Line") := T.cl 89
theorem naLine_at (T : Txt K mg) : NoAttr K (He.ga K "Line") "at" := T.na 90
theorem naLine_number (T : Txt K mg) : NoAttr K (He.ga K "Line") "number" := T.na 91
theorem naLine_text (T : Txt K mg) : NoAttr K (He.ga K "Line") "text" := T.na 92
theorem mkLine (T : Txt K mg) : Mk K (He.ga K "Line") (He.ma K (He.ga K "Line") "__init__") := T.mk' 93
theorem meLine_now (T : Txt K mg) : Meth K (He.ga K "Line") "now" (He.ma K (He.ga K "Line") "now") := T.me 94
theorem meLine_refuse (T : Txt K mg) : Meth K (He.ga K "Line") "refuse" (He.ma K (He.ga K "Line") "refuse") := T.me 95
theorem meLine_blanks (T : Txt K mg) : Meth K (He.ga K "Line") "blanks" (He.ma K (He.ga K "Line") "blanks") := T.me 96
theorem meLine_gap (T : Txt K mg) : Meth K (He.ga K "Line") "gap" (He.ma K (He.ga K "Line") "gap") := T.me 97
theorem meLine_take (T : Txt K mg) : Meth K (He.ga K "Line") "take" (He.ma K (He.ga K "Line") "take") := T.me 98
theorem meLine_figure (T : Txt K mg) : Meth K (He.ga K "Line") "figure" (He.ma K (He.ga K "Line") "figure") := T.me 99
theorem meLine_word (T : Txt K mg) : Meth K (He.ga K "Line") "word" (He.ma K (He.ga K "Line") "word") := T.me 100
theorem meLine_handed (T : Txt K mg) : Meth K (He.ga K "Line") "handed" (He.ma K (He.ga K "Line") "handed") := T.me 101
theorem nLen (T : Txt K mg) : mg "len" = none := T.n 102
theorem nRange (T : Txt K mg) : mg "range" = none := T.n 103
theorem nEnumerate (T : Txt K mg) : mg "enumerate" = none := T.n 104
theorem nInt (T : Txt K mg) : mg "int" = none := T.n 105
theorem nStr (T : Txt K mg) : mg "str" = none := T.n 106
theorem nList (T : Txt K mg) : mg "list" = none := T.n 107
theorem nTuple (T : Txt K mg) : mg "tuple" = none := T.n 108
theorem nSorted (T : Txt K mg) : mg "sorted" = none := T.n 109
theorem nSet (T : Txt K mg) : mg "set" = none := T.n 110
theorem nIsinstance (T : Txt K mg) : mg "isinstance" = none := T.n 111
theorem nBool (T : Txt K mg) : mg "bool" = none := T.n 112
theorem nOrd (T : Txt K mg) : mg "ord" = none := T.n 113
theorem gWORDS (T : Txt K mg) : mg "WORDS" = some (.ref (He.ga K "WORDS")) := T.g 114
abbrev aNamesInit (K : PySem.W.Frag) : Addr := He.ma K (He.ga K "Names") "__init__"
abbrev fdNamesInit (K : PySem.W.Frag) : FuncData := fdK K dNamesInit.at_
abbrev NNamesInit : List Str := ["self", "program", "left", "name", "row", "word", "rooms", "place", "maker", "at"]
abbrev PNamesInit : List Str := ["self", "program"]
theorem fNamesInit (T : Txt K mg) : FunD K "__init__" "Names.__init__" (defArgs sNamesInit) (defBody sNamesInit) (defScope sNamesInit) [] [] (aNamesInit K) (fdNamesInit K) := T.f (d := dNamesInit) 0
theorem scNamesInit : FnScope NNamesInit PNamesInit (defScope sNamesInit) := ⟨rfl, rfl, rfl, by decide +kernel, rfl, by decide +kernel, by decide +kernel⟩
theorem bNamesInit (T : Txt K mg) : Binds K (fdNamesInit K) PNamesInit [] := (fNamesInit T).bindsN fun _ _ _ _ _ _ us hl => match us, hl with | [_, _], _ => rfl
abbrev aNamesParts (K : PySem.W.Frag) : Addr := He.ma K (He.ga K "Names") "_parts"
abbrev fdNamesParts (K : PySem.W.Frag) : FuncData := fdK K dNamesParts.at_
abbrev NNamesParts : List Str := ["self", "place", "parts", "seats", "inner", "at", "part", "name"]
abbrev PNamesParts : List Str := ["self", "place", "parts"]
theorem fNamesParts (T : Txt K mg) : FunD K "_parts" "Names._parts" (defArgs sNamesParts) (defBody sNamesParts) (defScope sNamesParts) [] [] (aNamesParts K) (fdNamesParts K) := T.f (d := dNamesParts) 1
theorem scNamesParts : FnScope NNamesParts PNamesParts (defScope sNamesParts) := ⟨rfl, rfl, rfl, by decide +kernel, rfl, by decide +kernel, by decide +kernel⟩
theorem bNamesParts (T : Txt K mg) : Binds K (fdNamesParts K) PNamesParts [] := (fNamesParts T).bindsN fun _ _ _ _ _ _ us hl => match us, hl with | [_, _, _], _ => rfl
abbrev aNamesPathOf (K : PySem.W.Frag) : Addr := He.ma K (He.ga K "Names") "path_of"
abbrev fdNamesPathOf (K : PySem.W.Frag) : FuncData := fdK K dNamesPathOf.at_
abbrev NNamesPathOf : List Str := ["self", "place", "at"]
abbrev PNamesPathOf : List Str := ["self", "place"]
theorem fNamesPathOf (T : Txt K mg) : FunD K "path_of" "Names.path_of" (defArgs sNamesPathOf) (defBody sNamesPathOf) (defScope sNamesPathOf) [] [] (aNamesPathOf K) (fdNamesPathOf K) := T.f (d := dNamesPathOf) 2
theorem scNamesPathOf : FnScope NNamesPathOf PNamesPathOf (defScope sNamesPathOf) := ⟨rfl, rfl, rfl, by decide +kernel, rfl, by decide +kernel, by decide +kernel⟩
theorem bNamesPathOf (T : Txt K mg) : Binds K (fdNamesPathOf K) PNamesPathOf [] := (fNamesPathOf T).bindsN fun _ _ _ _ _ _ us hl => match us, hl with | [_, _], _ => rfl
abbrev aStandInit (K : PySem.W.Frag) : Addr := He.ma K (He.ga K "Stand") "__init__"
abbrev fdStandInit (K : PySem.W.Frag) : FuncData := fdK K dStandInit.at_
abbrev NStandInit : List Str := ["self", "names", "place", "limit", "givens"]
abbrev PStandInit : List Str := ["self", "names", "place", "limit", "givens"]
theorem fStandInit (T : Txt K mg) : FunD K "__init__" "Stand.__init__" (defArgs sStandInit) (defBody sStandInit) (defScope sStandInit) [] [] (aStandInit K) (fdStandInit K) := T.f (d := dStandInit) 3
theorem scStandInit : FnScope NStandInit PStandInit (defScope sStandInit) := ⟨rfl, rfl, rfl, by decide +kernel, rfl, by decide +kernel, by decide +kernel⟩
theorem bStandInit (T : Txt K mg) : Binds K (fdStandInit K) PStandInit [] := (fStandInit T).bindsN fun _ _ _ _ _ _ us hl => match us, hl with | [_, _, _, _, _], _ => rfl
abbrev aMakerInit (K : PySem.W.Frag) : Addr := He.ma K (He.ga K "Maker") "__init__"
abbrev fdMakerInit (K : PySem.W.Frag) : FuncData := fdK K dMakerInit.at_
abbrev NMakerInit : List Str := ["self", "names", "place", "maker", "rows", "row", "part", "at"]
abbrev PMakerInit : List Str := ["self", "names", "place"]
theorem fMakerInit (T : Txt K mg) : FunD K "__init__" "Maker.__init__" (defArgs sMakerInit) (defBody sMakerInit) (defScope sMakerInit) [] [] (aMakerInit K) (fdMakerInit K) := T.f (d := dMakerInit) 4
theorem scMakerInit : FnScope NMakerInit PMakerInit (defScope sMakerInit) := ⟨rfl, rfl, rfl, by decide +kernel, rfl, by decide +kernel, by decide +kernel⟩
theorem bMakerInit (T : Txt K mg) : Binds K (fdMakerInit K) PMakerInit [] := (fMakerInit T).bindsN fun _ _ _ _ _ _ us hl => match us, hl with | [_, _, _], _ => rfl
abbrev aLayout (K : PySem.W.Frag) : Addr := He.ga K "layout"
abbrev fdLayout (K : PySem.W.Frag) : FuncData := fdK K dLayout.at_
abbrev NLayout : List Str := ["program", "names", "plan", "place", "maker"]
abbrev PLayout : List Str := ["program"]
theorem fLayout (T : Txt K mg) : FunD K "layout" "layout" (defArgs sLayout) (defBody sLayout) (defScope sLayout) [] [] (aLayout K) (fdLayout K) := T.f (d := dLayout) 5
theorem scLayout : FnScope NLayout PLayout (defScope sLayout) := ⟨rfl, rfl, rfl, by decide +kernel, rfl, by decide +kernel, by decide +kernel⟩
theorem bLayout (T : Txt K mg) : Binds K (fdLayout K) PLayout [] := (fLayout T).bindsN fun _ _ _ _ _ _ us hl => match us, hl with | [_], _ => rfl
abbrev aCheckInit (K : PySem.W.Frag) : Addr := He.ma K (He.ga K "Check") "__init__"
abbrev fdCheckInit (K : PySem.W.Frag) : FuncData := fdK K dCheckInit.at_
abbrev NCheckInit : List Str := ["self", "names"]
abbrev PCheckInit : List Str := ["self", "names"]
theorem fCheckInit (T : Txt K mg) : FunD K "__init__" "Check.__init__" (defArgs sCheckInit) (defBody sCheckInit) (defScope sCheckInit) [] [] (aCheckInit K) (fdCheckInit K) := T.f (d := dCheckInit) 6
theorem scCheckInit : FnScope NCheckInit PCheckInit (defScope sCheckInit) := ⟨rfl, rfl, rfl, by decide +kernel, rfl, by decide +kernel, by decide +kernel⟩
theorem bCheckInit (T : Txt K mg) : Binds K (fdCheckInit K) PCheckInit [] := (fCheckInit T).bindsN fun _ _ _ _ _ _ us hl => match us, hl with | [_, _], _ => rfl
abbrev aCheckKinds (K : PySem.W.Frag) : Addr := He.ga K "check_kinds"
abbrev fdCheckKinds (K : PySem.W.Frag) : FuncData := fdK K dCheckKinds.at_
abbrev NCheckKinds : List Str := ["check", "kinds", "names", "words", "name", "row", "word"]
abbrev PCheckKinds : List Str := ["check", "kinds"]
theorem fCheckKinds (T : Txt K mg) : FunD K "check_kinds" "check_kinds" (defArgs sCheckKinds) (defBody sCheckKinds) (defScope sCheckKinds) [] [] (aCheckKinds K) (fdCheckKinds K) := T.f (d := dCheckKinds) 7
theorem scCheckKinds : FnScope NCheckKinds PCheckKinds (defScope sCheckKinds) := ⟨rfl, rfl, rfl, by decide +kernel, rfl, by decide +kernel, by decide +kernel⟩
theorem bCheckKinds (T : Txt K mg) : Binds K (fdCheckKinds K) PCheckKinds [] := (fCheckKinds T).bindsN fun _ _ _ _ _ _ us hl => match us, hl with | [_, _], _ => rfl
abbrev aCheckMaker (K : PySem.W.Frag) : Addr := He.ga K "check_maker"
abbrev fdCheckMaker (K : PySem.W.Frag) : FuncData := fdK K dCheckMaker.at_
abbrev NCheckMaker : List Str := ["check", "place", "maker", "rows", "many", "row", "at", "part", "one"]
abbrev PCheckMaker : List Str := ["check", "place", "maker"]
theorem fCheckMaker (T : Txt K mg) : FunD K "check_maker" "check_maker" (defArgs sCheckMaker) (defBody sCheckMaker) (defScope sCheckMaker) [] [] (aCheckMaker K) (fdCheckMaker K) := T.f (d := dCheckMaker) 8
theorem scCheckMaker : FnScope NCheckMaker PCheckMaker (defScope sCheckMaker) := ⟨rfl, rfl, rfl, by decide +kernel, rfl, by decide +kernel, by decide +kernel⟩
theorem bCheckMaker (T : Txt K mg) : Binds K (fdCheckMaker K) PCheckMaker [] := (fCheckMaker T).bindsN fun _ _ _ _ _ _ us hl => match us, hl with | [_, _, _], _ => rfl
abbrev aPartsInAll (K : PySem.W.Frag) : Addr := He.ga K "parts_in_all"
abbrev fdPartsInAll (K : PySem.W.Frag) : FuncData := fdK K dPartsInAll.at_
abbrev NPartsInAll : List Str := ["program", "left", "many", "parts", "part"]
abbrev PPartsInAll : List Str := ["program"]
theorem fPartsInAll (T : Txt K mg) : FunD K "parts_in_all" "parts_in_all" (defArgs sPartsInAll) (defBody sPartsInAll) (defScope sPartsInAll) [] [] (aPartsInAll K) (fdPartsInAll K) := T.f (d := dPartsInAll) 9
theorem scPartsInAll : FnScope NPartsInAll PPartsInAll (defScope sPartsInAll) := ⟨rfl, rfl, rfl, by decide +kernel, rfl, by decide +kernel, by decide +kernel⟩
theorem bPartsInAll (T : Txt K mg) : Binds K (fdPartsInAll K) PPartsInAll [] := (fPartsInAll T).bindsN fun _ _ _ _ _ _ us hl => match us, hl with | [_], _ => rfl
abbrev aMistakes (K : PySem.W.Frag) : Addr := He.ga K "mistakes"
abbrev fdMistakes (K : PySem.W.Frag) : FuncData := fdK K dMistakes.at_
abbrev NMistakes : List Str := ["program", "check", "sizes", "place", "maker", "act"]
abbrev PMistakes : List Str := ["program"]
theorem fMistakes (T : Txt K mg) : FunD K "mistakes" "mistakes" (defArgs sMistakes) (defBody sMistakes) (defScope sMistakes) [] [] (aMistakes K) (fdMistakes K) := T.f (d := dMistakes) 10
theorem scMistakes : FnScope NMistakes PMistakes (defScope sMistakes) := ⟨rfl, rfl, rfl, by decide +kernel, rfl, by decide +kernel, by decide +kernel⟩
theorem bMistakes (T : Txt K mg) : Binds K (fdMistakes K) PMistakes [] := (fMistakes T).bindsN fun _ _ _ _ _ _ us hl => match us, hl with | [_], _ => rfl
abbrev aSound (K : PySem.W.Frag) : Addr := He.ga K "sound"
abbrev fdSound (K : PySem.W.Frag) : FuncData := fdK K dSound.at_
abbrev NSound : List Str := ["program"]
abbrev PSound : List Str := ["program"]
theorem fSound (T : Txt K mg) : FunD K "sound" "sound" (defArgs sSound) (defBody sSound) (defScope sSound) [] [] (aSound K) (fdSound K) := T.f (d := dSound) 11
theorem scSound : FnScope NSound PSound (defScope sSound) := ⟨rfl, rfl, rfl, by decide +kernel, rfl, by decide +kernel, by decide +kernel⟩
theorem bSound (T : Txt K mg) : Binds K (fdSound K) PSound [] := (fSound T).bindsN fun _ _ _ _ _ _ us hl => match us, hl with | [_], _ => rfl
abbrev aIsSmall (K : PySem.W.Frag) : Addr := He.ga K "is_small"
abbrev fdIsSmall (K : PySem.W.Frag) : FuncData := fdK K dIsSmall.at_
abbrev NIsSmall : List Str := ["sign"]
abbrev PIsSmall : List Str := ["sign"]
theorem fIsSmall (T : Txt K mg) : FunD K "is_small" "is_small" (defArgs sIsSmall) (defBody sIsSmall) (defScope sIsSmall) [] [] (aIsSmall K) (fdIsSmall K) := T.f (d := dIsSmall) 12
theorem scIsSmall : FnScope NIsSmall PIsSmall (defScope sIsSmall) := ⟨rfl, rfl, rfl, by decide +kernel, rfl, by decide +kernel, by decide +kernel⟩
theorem bIsSmall (T : Txt K mg) : Binds K (fdIsSmall K) PIsSmall [] := (fIsSmall T).bindsN fun _ _ _ _ _ _ us hl => match us, hl with | [_], _ => rfl
abbrev aIsGreat (K : PySem.W.Frag) : Addr := He.ga K "is_great"
abbrev fdIsGreat (K : PySem.W.Frag) : FuncData := fdK K dIsGreat.at_
abbrev NIsGreat : List Str := ["sign"]
abbrev PIsGreat : List Str := ["sign"]
theorem fIsGreat (T : Txt K mg) : FunD K "is_great" "is_great" (defArgs sIsGreat) (defBody sIsGreat) (defScope sIsGreat) [] [] (aIsGreat K) (fdIsGreat K) := T.f (d := dIsGreat) 13
theorem scIsGreat : FnScope NIsGreat PIsGreat (defScope sIsGreat) := ⟨rfl, rfl, rfl, by decide +kernel, rfl, by decide +kernel, by decide +kernel⟩
theorem bIsGreat (T : Txt K mg) : Binds K (fdIsGreat K) PIsGreat [] := (fIsGreat T).bindsN fun _ _ _ _ _ _ us hl => match us, hl with | [_], _ => rfl
abbrev aInRow (K : PySem.W.Frag) : Addr := He.ga K "in_row"
abbrev fdInRow (K : PySem.W.Frag) : FuncData := fdK K dInRow.at_
abbrev NInRow : List Str := ["sign"]
abbrev PInRow : List Str := ["sign"]
theorem fInRow (T : Txt K mg) : FunD K "in_row" "in_row" (defArgs sInRow) (defBody sInRow) (defScope sInRow) [] [] (aInRow K) (fdInRow K) := T.f (d := dInRow) 14
theorem scInRow : FnScope NInRow PInRow (defScope sInRow) := ⟨rfl, rfl, rfl, by decide +kernel, rfl, by decide +kernel, by decide +kernel⟩
theorem bInRow (T : Txt K mg) : Binds K (fdInRow K) PInRow [] := (fInRow T).bindsN fun _ _ _ _ _ _ us hl => match us, hl with | [_], _ => rfl
abbrev aActingInit (K : PySem.W.Frag) : Addr := He.ma K (He.ga K "Acting") "__init__"
abbrev fdActingInit (K : PySem.W.Frag) : FuncData := fdK K dActingInit.at_
abbrev NActingInit : List Str := ["self", "plan", "path", "maker", "act", "value"]
abbrev PActingInit : List Str := ["self", "plan"]
theorem fActingInit (T : Txt K mg) : FunD K "__init__" "Acting.__init__" (defArgs sActingInit) (defBody sActingInit) (defScope sActingInit) [] [] (aActingInit K) (fdActingInit K) := T.f (d := dActingInit) 15
theorem scActingInit : FnScope NActingInit PActingInit (defScope sActingInit) := ⟨rfl, rfl, rfl, by decide +kernel, rfl, by decide +kernel, by decide +kernel⟩
theorem bActingInit (T : Txt K mg) : Binds K (fdActingInit K) PActingInit [] := (fActingInit T).bindsN fun _ _ _ _ _ _ us hl => match us, hl with | [_, _], _ => rfl
abbrev aActingMade (K : PySem.W.Frag) : Addr := He.ma K (He.ga K "Acting") "made"
abbrev fdActingMade (K : PySem.W.Frag) : FuncData := fdK K dActingMade.at_
abbrev NActingMade : List Str := ["self", "path", "chain", "handed", "doing", "own", "code", "events", "event"]
abbrev PActingMade : List Str := ["self", "path", "chain", "handed"]
theorem fActingMade (T : Txt K mg) : FunD K "made" "Acting.made" (defArgs sActingMade) (defBody sActingMade) (defScope sActingMade) [] [] (aActingMade K) (fdActingMade K) := T.f (d := dActingMade) 16
theorem scActingMade : FnScope NActingMade PActingMade (defScope sActingMade) := ⟨rfl, rfl, rfl, by decide +kernel, rfl, by decide +kernel, by decide +kernel⟩
theorem bActingMade (T : Txt K mg) : Binds K (fdActingMade K) PActingMade [] := (fActingMade T).bindsN fun _ _ _ _ _ _ us hl => match us, hl with | [_, _, _, _], _ => rfl
abbrev aDoingInit (K : PySem.W.Frag) : Addr := He.ma K (He.ga K "Doing") "__init__"
abbrev fdDoingInit (K : PySem.W.Frag) : FuncData := fdK K dDoingInit.at_
abbrev NDoingInit : List Str := ["self", "codes", "chain", "row"]
abbrev PDoingInit : List Str := ["self", "codes", "chain"]
theorem fDoingInit (T : Txt K mg) : FunD K "__init__" "Doing.__init__" (defArgs sDoingInit) (defBody sDoingInit) (defScope sDoingInit) [] [] (aDoingInit K) (fdDoingInit K) := T.f (d := dDoingInit) 17
theorem scDoingInit : FnScope NDoingInit PDoingInit (defScope sDoingInit) := ⟨rfl, rfl, rfl, by decide +kernel, rfl, by decide +kernel, by decide +kernel⟩
theorem bDoingInit (T : Txt K mg) : Binds K (fdDoingInit K) PDoingInit [] := (fDoingInit T).bindsN fun _ _ _ _ _ _ us hl => match us, hl with | [_, _, _], _ => rfl
abbrev aWalkInit (K : PySem.W.Frag) : Addr := He.ma K (He.ga K "Walk") "__init__"
abbrev fdWalkInit (K : PySem.W.Frag) : FuncData := fdK K dWalkInit.at_
abbrev NWalkInit : List Str := ["self", "plan"]
abbrev PWalkInit : List Str := ["self", "plan"]
theorem fWalkInit (T : Txt K mg) : FunD K "__init__" "Walk.__init__" (defArgs sWalkInit) (defBody sWalkInit) (defScope sWalkInit) [] [] (aWalkInit K) (fdWalkInit K) := T.f (d := dWalkInit) 18
theorem scWalkInit : FnScope NWalkInit PWalkInit (defScope sWalkInit) := ⟨rfl, rfl, rfl, by decide +kernel, rfl, by decide +kernel, by decide +kernel⟩
theorem bWalkInit (T : Txt K mg) : Binds K (fdWalkInit K) PWalkInit [] := (fWalkInit T).bindsN fun _ _ _ _ _ _ us hl => match us, hl with | [_, _], _ => rfl
abbrev aLineInit (K : PySem.W.Frag) : Addr := He.ma K (He.ga K "Line") "__init__"
abbrev fdLineInit (K : PySem.W.Frag) : FuncData := fdK K dLineInit.at_
abbrev NLineInit : List Str := ["self", "text", "number"]
abbrev PLineInit : List Str := ["self", "text", "number"]
theorem fLineInit (T : Txt K mg) : FunD K "__init__" "Line.__init__" (defArgs sLineInit) (defBody sLineInit) (defScope sLineInit) [] [] (aLineInit K) (fdLineInit K) := T.f (d := dLineInit) 19
theorem scLineInit : FnScope NLineInit PLineInit (defScope sLineInit) := ⟨rfl, rfl, rfl, by decide +kernel, rfl, by decide +kernel, by decide +kernel⟩
theorem bLineInit (T : Txt K mg) : Binds K (fdLineInit K) PLineInit [] := (fLineInit T).bindsN fun _ _ _ _ _ _ us hl => match us, hl with | [_, _, _], _ => rfl
abbrev aLineNow (K : PySem.W.Frag) : Addr := He.ma K (He.ga K "Line") "now"
abbrev fdLineNow (K : PySem.W.Frag) : FuncData := fdK K dLineNow.at_
abbrev NLineNow : List Str := ["self"]
abbrev PLineNow : List Str := ["self"]
theorem fLineNow (T : Txt K mg) : FunD K "now" "Line.now" (defArgs sLineNow) (defBody sLineNow) (defScope sLineNow) [] [] (aLineNow K) (fdLineNow K) := T.f (d := dLineNow) 20
theorem scLineNow : FnScope NLineNow PLineNow (defScope sLineNow) := ⟨rfl, rfl, rfl, by decide +kernel, rfl, by decide +kernel, by decide +kernel⟩
theorem bLineNow (T : Txt K mg) : Binds K (fdLineNow K) PLineNow [] := (fLineNow T).bindsN fun _ _ _ _ _ _ us hl => match us, hl with | [_], _ => rfl
abbrev aLineRefuse (K : PySem.W.Frag) : Addr := He.ma K (He.ga K "Line") "refuse"
abbrev fdLineRefuse (K : PySem.W.Frag) : FuncData := fdK K dLineRefuse.at_
abbrev NLineRefuse : List Str := ["self"]
abbrev PLineRefuse : List Str := ["self"]
theorem fLineRefuse (T : Txt K mg) : FunD K "refuse" "Line.refuse" (defArgs sLineRefuse) (defBody sLineRefuse) (defScope sLineRefuse) [] [] (aLineRefuse K) (fdLineRefuse K) := T.f (d := dLineRefuse) 21
theorem scLineRefuse : FnScope NLineRefuse PLineRefuse (defScope sLineRefuse) := ⟨rfl, rfl, rfl, by decide +kernel, rfl, by decide +kernel, by decide +kernel⟩
theorem bLineRefuse (T : Txt K mg) : Binds K (fdLineRefuse K) PLineRefuse [] := (fLineRefuse T).bindsN fun _ _ _ _ _ _ us hl => match us, hl with | [_], _ => rfl
abbrev aLineBlanks (K : PySem.W.Frag) : Addr := He.ma K (He.ga K "Line") "blanks"
abbrev fdLineBlanks (K : PySem.W.Frag) : FuncData := fdK K dLineBlanks.at_
abbrev NLineBlanks : List Str := ["self"]
abbrev PLineBlanks : List Str := ["self"]
theorem fLineBlanks (T : Txt K mg) : FunD K "blanks" "Line.blanks" (defArgs sLineBlanks) (defBody sLineBlanks) (defScope sLineBlanks) [] [] (aLineBlanks K) (fdLineBlanks K) := T.f (d := dLineBlanks) 22
theorem scLineBlanks : FnScope NLineBlanks PLineBlanks (defScope sLineBlanks) := ⟨rfl, rfl, rfl, by decide +kernel, rfl, by decide +kernel, by decide +kernel⟩
theorem bLineBlanks (T : Txt K mg) : Binds K (fdLineBlanks K) PLineBlanks [] := (fLineBlanks T).bindsN fun _ _ _ _ _ _ us hl => match us, hl with | [_], _ => rfl
abbrev aLineGap (K : PySem.W.Frag) : Addr := He.ma K (He.ga K "Line") "gap"
abbrev fdLineGap (K : PySem.W.Frag) : FuncData := fdK K dLineGap.at_
abbrev NLineGap : List Str := ["self"]
abbrev PLineGap : List Str := ["self"]
theorem fLineGap (T : Txt K mg) : FunD K "gap" "Line.gap" (defArgs sLineGap) (defBody sLineGap) (defScope sLineGap) [] [] (aLineGap K) (fdLineGap K) := T.f (d := dLineGap) 23
theorem scLineGap : FnScope NLineGap PLineGap (defScope sLineGap) := ⟨rfl, rfl, rfl, by decide +kernel, rfl, by decide +kernel, by decide +kernel⟩
theorem bLineGap (T : Txt K mg) : Binds K (fdLineGap K) PLineGap [] := (fLineGap T).bindsN fun _ _ _ _ _ _ us hl => match us, hl with | [_], _ => rfl
abbrev aLineTake (K : PySem.W.Frag) : Addr := He.ma K (He.ga K "Line") "take"
abbrev fdLineTake (K : PySem.W.Frag) : FuncData := fdK K dLineTake.at_
abbrev NLineTake : List Str := ["self", "signs", "sign"]
abbrev PLineTake : List Str := ["self", "signs"]
theorem fLineTake (T : Txt K mg) : FunD K "take" "Line.take" (defArgs sLineTake) (defBody sLineTake) (defScope sLineTake) [] [] (aLineTake K) (fdLineTake K) := T.f (d := dLineTake) 24
theorem scLineTake : FnScope NLineTake PLineTake (defScope sLineTake) := ⟨rfl, rfl, rfl, by decide +kernel, rfl, by decide +kernel, by decide +kernel⟩
theorem bLineTake (T : Txt K mg) : Binds K (fdLineTake K) PLineTake [] := (fLineTake T).bindsN fun _ _ _ _ _ _ us hl => match us, hl with | [_, _], _ => rfl
abbrev aLineFigure (K : PySem.W.Frag) : Addr := He.ma K (He.ga K "Line") "figure"
abbrev fdLineFigure (K : PySem.W.Frag) : FuncData := fdK K dLineFigure.at_
abbrev NLineFigure : List Str := ["self", "number"]
abbrev PLineFigure : List Str := ["self"]
theorem fLineFigure (T : Txt K mg) : FunD K "figure" "Line.figure" (defArgs sLineFigure) (defBody sLineFigure) (defScope sLineFigure) [] [] (aLineFigure K) (fdLineFigure K) := T.f (d := dLineFigure) 25
theorem scLineFigure : FnScope NLineFigure PLineFigure (defScope sLineFigure) := ⟨rfl, rfl, rfl, by decide +kernel, rfl, by decide +kernel, by decide +kernel⟩
theorem bLineFigure (T : Txt K mg) : Binds K (fdLineFigure K) PLineFigure [] := (fLineFigure T).bindsN fun _ _ _ _ _ _ us hl => match us, hl with | [_], _ => rfl
abbrev aLineWord (K : PySem.W.Frag) : Addr := He.ma K (He.ga K "Line") "word"
abbrev fdLineWord (K : PySem.W.Frag) : FuncData := fdK K dLineWord.at_
abbrev NLineWord : List Str := ["self", "fits", "start", "word"]
abbrev PLineWord : List Str := ["self", "fits"]
theorem fLineWord (T : Txt K mg) : FunD K "word" "Line.word" (defArgs sLineWord) (defBody sLineWord) (defScope sLineWord) [] [] (aLineWord K) (fdLineWord K) := T.f (d := dLineWord) 26
theorem scLineWord : FnScope NLineWord PLineWord (defScope sLineWord) := ⟨rfl, rfl, rfl, by decide +kernel, rfl, by decide +kernel, by decide +kernel⟩
theorem bLineWord (T : Txt K mg) : Binds K (fdLineWord K) PLineWord [] := (fLineWord T).bindsN fun _ _ _ _ _ _ us hl => match us, hl with | [_, _], _ => rfl
abbrev aLineHanded (K : PySem.W.Frag) : Addr := He.ma K (He.ga K "Line") "handed"
abbrev fdLineHanded (K : PySem.W.Frag) : FuncData := fdK K dLineHanded.at_
abbrev NLineHanded : List Str := ["self", "rows"]
abbrev PLineHanded : List Str := ["self"]
theorem fLineHanded (T : Txt K mg) : FunD K "handed" "Line.handed" (defArgs sLineHanded) (defBody sLineHanded) (defScope sLineHanded) [] [] (aLineHanded K) (fdLineHanded K) := T.f (d := dLineHanded) 27
theorem scLineHanded : FnScope NLineHanded PLineHanded (defScope sLineHanded) := ⟨rfl, rfl, rfl, by decide +kernel, rfl, by decide +kernel, by decide +kernel⟩
theorem bLineHanded (T : Txt K mg) : Binds K (fdLineHanded K) PLineHanded [] := (fLineHanded T).bindsN fun _ _ _ _ _ _ us hl => match us, hl with | [_], _ => rfl
abbrev aReadLine (K : PySem.W.Frag) : Addr := He.ga K "read_line"
abbrev fdReadLine (K : PySem.W.Frag) : FuncData := fdK K dReadLine.at_
abbrev NReadLine : List Str := ["line", "part", "frame", "name", "values", "answer"]
abbrev PReadLine : List Str := ["line"]
theorem fReadLine (T : Txt K mg) : FunD K "read_line" "read_line" (defArgs sReadLine) (defBody sReadLine) (defScope sReadLine) [] [] (aReadLine K) (fdReadLine K) := T.f (d := dReadLine) 28
theorem scReadLine : FnScope NReadLine PReadLine (defScope sReadLine) := ⟨rfl, rfl, rfl, by decide +kernel, rfl, by decide +kernel, by decide +kernel⟩
theorem bReadLine (T : Txt K mg) : Binds K (fdReadLine K) PReadLine [] := (fReadLine T).bindsN fun _ _ _ _ _ _ us hl => match us, hl with | [_], _ => rfl
abbrev aToldLines (K : PySem.W.Frag) : Addr := He.ga K "told_lines"
abbrev fdToldLines (K : PySem.W.Frag) : FuncData := fdK K dToldLines.at_
abbrev NToldLines : List Str := ["text", "rows", "at", "words", "found"]
abbrev PToldLines : List Str := ["text"]
theorem fToldLines (T : Txt K mg) : FunD K "told_lines" "told_lines" (defArgs sToldLines) (defBody sToldLines) (defScope sToldLines) [] [] (aToldLines K) (fdToldLines K) := T.f (d := dToldLines) 29
theorem scToldLines : FnScope NToldLines PToldLines (defScope sToldLines) := ⟨rfl, rfl, rfl, by decide +kernel, rfl, by decide +kernel, by decide +kernel⟩
theorem bToldLines (T : Txt K mg) : Binds K (fdToldLines K) PToldLines [] := (fToldLines T).bindsN fun _ _ _ _ _ _ us hl => match us, hl with | [_], _ => rfl
abbrev aReadTranscript (K : PySem.W.Frag) : Addr := He.ga K "read_transcript"
abbrev fdReadTranscript (K : PySem.W.Frag) : FuncData := fdK K dReadTranscript.at_
abbrev NReadTranscript : List Str := ["text", "rows", "row"]
abbrev PReadTranscript : List Str := ["text"]
theorem fReadTranscript (T : Txt K mg) : FunD K "read_transcript" "read_transcript" (defArgs sReadTranscript) (defBody sReadTranscript) (defScope sReadTranscript) [] [] (aReadTranscript K) (fdReadTranscript K) := T.f (d := dReadTranscript) 30
theorem scReadTranscript : FnScope NReadTranscript PReadTranscript (defScope sReadTranscript) := ⟨rfl, rfl, rfl, by decide +kernel, rfl, by decide +kernel, by decide +kernel⟩
theorem bReadTranscript (T : Txt K mg) : Binds K (fdReadTranscript K) PReadTranscript [] := (fReadTranscript T).bindsN fun _ _ _ _ _ _ us hl => match us, hl with | [_], _ => rfl
abbrev aChecked (K : PySem.W.Frag) : Addr := He.ga K "checked"
abbrev fdChecked (K : PySem.W.Frag) : FuncData := fdK K dChecked.at_
abbrev NChecked : List Str := ["program", "text", "walk", "line", "call", "told", "answer"]
abbrev PChecked : List Str := ["program", "text"]
theorem fChecked (T : Txt K mg) : FunD K "checked" "checked" (defArgs sChecked) (defBody sChecked) (defScope sChecked) [] [] (aChecked K) (fdChecked K) := T.f (d := dChecked) 31
theorem scChecked : FnScope NChecked PChecked (defScope sChecked) := ⟨rfl, rfl, rfl, by decide +kernel, rfl, by decide +kernel, by decide +kernel⟩
theorem bChecked (T : Txt K mg) : Binds K (fdChecked K) PChecked [] := (fChecked T).bindsN fun _ _ _ _ _ _ us hl => match us, hl with | [_, _], _ => rfl
abbrev aLawDraw (K : PySem.W.Frag) : Addr := He.ga K "_law_draw"
abbrev fdLawDraw (K : PySem.W.Frag) : FuncData := fdK K dLawDraw.at_
abbrev NLawDraw : List Str := ["source", "many", "cell", "mixed", "drawn"]
abbrev PLawDraw : List Str := ["source", "many"]
theorem fLawDraw (T : Txt K mg) : FunD K "_law_draw" "_law_draw" (defArgs sLawDraw) (defBody sLawDraw) (defScope sLawDraw) [] [] (aLawDraw K) (fdLawDraw K) := T.f (d := dLawDraw) 32
theorem scLawDraw : FnScope NLawDraw PLawDraw (defScope sLawDraw) := ⟨rfl, rfl, rfl, by decide +kernel, rfl, by decide +kernel, by decide +kernel⟩
theorem bLawDraw (T : Txt K mg) : Binds K (fdLawDraw K) PLawDraw [] := (fLawDraw T).bindsN fun _ _ _ _ _ _ us hl => match us, hl with | [_, _], _ => rfl
abbrev aLawPick (K : PySem.W.Frag) : Addr := He.ga K "_law_pick"
abbrev fdLawPick (K : PySem.W.Frag) : FuncData := fdK K dLawPick.at_
abbrev NLawPick : List Str := ["source", "row"]
abbrev PLawPick : List Str := ["source", "row"]
theorem fLawPick (T : Txt K mg) : FunD K "_law_pick" "_law_pick" (defArgs sLawPick) (defBody sLawPick) (defScope sLawPick) [] [] (aLawPick K) (fdLawPick K) := T.f (d := dLawPick) 33
theorem scLawPick : FnScope NLawPick PLawPick (defScope sLawPick) := ⟨rfl, rfl, rfl, by decide +kernel, rfl, by decide +kernel, by decide +kernel⟩
theorem bLawPick (T : Txt K mg) : Binds K (fdLawPick K) PLawPick [] := (fLawPick T).bindsN fun _ _ _ _ _ _ us hl => match us, hl with | [_, _], _ => rfl
abbrev aLawName (K : PySem.W.Frag) : Addr := He.ga K "_law_name"
abbrev fdLawName (K : PySem.W.Frag) : FuncData := fdK K dLawName.at_
abbrev NLawName : List Str := ["source", "great", "taken", "more", "words", "name", "k"]
abbrev PLawName : List Str := ["source", "great", "taken"]
theorem fLawName (T : Txt K mg) : FunD K "_law_name" "_law_name" (defArgs sLawName) (defBody sLawName) (defScope sLawName) [] [] (aLawName K) (fdLawName K) := T.f (d := dLawName) 34
theorem scLawName : FnScope NLawName PLawName (defScope sLawName) := ⟨rfl, rfl, rfl, by decide +kernel, rfl, by decide +kernel, by decide +kernel⟩
theorem bLawName (T : Txt K mg) : Binds K (fdLawName K) PLawName [] := (fLawName T).bindsN fun _ _ _ _ _ _ us hl => match us, hl with | [_, _, _], _ => rfl
abbrev aLawLike (K : PySem.W.Frag) : Addr := He.ga K "_law_like"
abbrev fdLawLike (K : PySem.W.Frag) : FuncData := fdK K dLawLike.at_
abbrev NLawLike : List Str := ["actual", "due", "k"]
abbrev PLawLike : List Str := ["actual", "due"]
theorem fLawLike (T : Txt K mg) : FunD K "_law_like" "_law_like" (defArgs sLawLike) (defBody sLawLike) (defScope sLawLike) [] [] (aLawLike K) (fdLawLike K) := T.f (d := dLawLike) 35
theorem scLawLike : FnScope NLawLike PLawLike (defScope sLawLike) := ⟨rfl, rfl, rfl, by decide +kernel, rfl, by decide +kernel, by decide +kernel⟩
theorem bLawLike (T : Txt K mg) : Binds K (fdLawLike K) PLawLike [] := (fLawLike T).bindsN fun _ _ _ _ _ _ us hl => match us, hl with | [_, _], _ => rfl
abbrev aLawWild (K : PySem.W.Frag) : Addr := He.ga K "_law_wild"
abbrev fdLawWild (K : PySem.W.Frag) : FuncData := fdK K dLawWild.at_
abbrev NLawWild : List Str := ["source", "word", "tokens", "k"]
abbrev PLawWild : List Str := ["source"]
theorem fLawWild (T : Txt K mg) : FunD K "_law_wild" "_law_wild" (defArgs sLawWild) (defBody sLawWild) (defScope sLawWild) [] [] (aLawWild K) (fdLawWild K) := T.f (d := dLawWild) 36
theorem scLawWild : FnScope NLawWild PLawWild (defScope sLawWild) := ⟨rfl, rfl, rfl, by decide +kernel, rfl, by decide +kernel, by decide +kernel⟩
theorem bLawWild (T : Txt K mg) : Binds K (fdLawWild K) PLawWild [] := (fLawWild T).bindsN fun _ _ _ _ _ _ us hl => match us, hl with | [_], _ => rfl
abbrev aLawBlanks (K : PySem.W.Frag) : Addr := He.ga K "_law_blanks"
abbrev fdLawBlanks (K : PySem.W.Frag) : FuncData := fdK K dLawBlanks.at_
abbrev NLawBlanks : List Str := ["source", "least"]
abbrev PLawBlanks : List Str := ["source", "least"]
theorem fLawBlanks (T : Txt K mg) : FunD K "_law_blanks" "_law_blanks" (defArgs sLawBlanks) (defBody sLawBlanks) (defScope sLawBlanks) [] [] (aLawBlanks K) (fdLawBlanks K) := T.f (d := dLawBlanks) 37
theorem scLawBlanks : FnScope NLawBlanks PLawBlanks (defScope sLawBlanks) := ⟨rfl, rfl, rfl, by decide +kernel, rfl, by decide +kernel, by decide +kernel⟩
theorem bLawBlanks (T : Txt K mg) : Binds K (fdLawBlanks K) PLawBlanks [] := (fLawBlanks T).bindsN fun _ _ _ _ _ _ us hl => match us, hl with | [_, _], _ => rfl
abbrev aLawSpelled (K : PySem.W.Frag) : Addr := He.ga K "_law_spelled"
abbrev fdLawSpelled (K : PySem.W.Frag) : FuncData := fdK K dLawSpelled.at_
abbrev NLawSpelled : List Str := ["source", "tokens", "text", "starts", "signs", "k", "least"]
abbrev PLawSpelled : List Str := ["source", "tokens"]
theorem fLawSpelled (T : Txt K mg) : FunD K "_law_spelled" "_law_spelled" (defArgs sLawSpelled) (defBody sLawSpelled) (defScope sLawSpelled) [] [] (aLawSpelled K) (fdLawSpelled K) := T.f (d := dLawSpelled) 38
theorem scLawSpelled : FnScope NLawSpelled PLawSpelled (defScope sLawSpelled) := ⟨rfl, rfl, rfl, by decide +kernel, rfl, by decide +kernel, by decide +kernel⟩
theorem bLawSpelled (T : Txt K mg) : Binds K (fdLawSpelled K) PLawSpelled [] := (fLawSpelled T).bindsN fun _ _ _ _ _ _ us hl => match us, hl with | [_, _], _ => rfl
abbrev aLawSigns (K : PySem.W.Frag) : Addr := He.ga K "_law_signs"
abbrev fdLawSigns (K : PySem.W.Frag) : FuncData := fdK K dLawSigns.at_
abbrev NLawSigns : List Str := ["tokens", "k", "last"]
abbrev PLawSigns : List Str := ["tokens", "k"]
theorem fLawSigns (T : Txt K mg) : FunD K "_law_signs" "_law_signs" (defArgs sLawSigns) (defBody sLawSigns) (defScope sLawSigns) [] [] (aLawSigns K) (fdLawSigns K) := T.f (d := dLawSigns) 39
theorem scLawSigns : FnScope NLawSigns PLawSigns (defScope sLawSigns) := ⟨rfl, rfl, rfl, by decide +kernel, rfl, by decide +kernel, by decide +kernel⟩
theorem bLawSigns (T : Txt K mg) : Binds K (fdLawSigns K) PLawSigns [] := (fLawSigns T).bindsN fun _ _ _ _ _ _ us hl => match us, hl with | [_, _], _ => rfl
abbrev aLawBent (K : PySem.W.Frag) : Addr := He.ga K "_law_bent"
abbrev fdLawBent (K : PySem.W.Frag) : FuncData := fdK K dLawBent.at_
abbrev NLawBent : List Str := ["source", "tokens", "text", "starts", "last", "shape", "k", "at", "tail", "words", "word"]
abbrev PLawBent : List Str := ["source", "tokens", "text", "starts"]
theorem fLawBent (T : Txt K mg) : FunD K "_law_bent" "_law_bent" (defArgs sLawBent) (defBody sLawBent) (defScope sLawBent) [] [] (aLawBent K) (fdLawBent K) := T.f (d := dLawBent) 40
theorem scLawBent : FnScope NLawBent PLawBent (defScope sLawBent) := ⟨rfl, rfl, rfl, by decide +kernel, rfl, by decide +kernel, by decide +kernel⟩
theorem bLawBent (T : Txt K mg) : Binds K (fdLawBent K) PLawBent [] := (fLawBent T).bindsN fun _ _ _ _ _ _ us hl => match us, hl with | [_, _, _, _], _ => rfl
abbrev aLawRefused (K : PySem.W.Frag) : Addr := He.ga K "_law_refused"
abbrev fdLawRefused (K : PySem.W.Frag) : FuncData := fdK K dLawRefused.at_
abbrev NLawRefused : List Str := ["program", "text", "line", "column", "e"]
abbrev PLawRefused : List Str := ["program", "text", "line", "column"]
theorem fLawRefused (T : Txt K mg) : FunD K "_law_refused" "_law_refused" (defArgs sLawRefused) (defBody sLawRefused) (defScope sLawRefused) [] [] (aLawRefused K) (fdLawRefused K) := T.f (d := dLawRefused) 41
theorem scLawRefused : FnScope NLawRefused PLawRefused (defScope sLawRefused) := ⟨rfl, rfl, rfl, by decide +kernel, rfl, by decide +kernel, by decide +kernel⟩
theorem bLawRefused (T : Txt K mg) : Binds K (fdLawRefused K) PLawRefused [] := (fLawRefused T).bindsN fun _ _ _ _ _ _ us hl => match us, hl with | [_, _, _, _], _ => rfl
abbrev aLawRead (K : PySem.W.Frag) : Addr := He.ga K "_law_read"
abbrev fdLawRead (K : PySem.W.Frag) : FuncData := fdK K dLawRead.at_
abbrev NLawRead : List Str := ["text", "rows", "calls", "answers", "tokens", "values", "token"]
abbrev PLawRead : List Str := ["text", "rows"]
theorem fLawRead (T : Txt K mg) : FunD K "_law_read" "_law_read" (defArgs sLawRead) (defBody sLawRead) (defScope sLawRead) [] [] (aLawRead K) (fdLawRead K) := T.f (d := dLawRead) 42
theorem scLawRead : FnScope NLawRead PLawRead (defScope sLawRead) := ⟨rfl, rfl, rfl, by decide +kernel, rfl, by decide +kernel, by decide +kernel⟩
theorem bLawRead (T : Txt K mg) : Binds K (fdLawRead K) PLawRead [] := (fLawRead T).bindsN fun _ _ _ _ _ _ us hl => match us, hl with | [_, _], _ => rfl
abbrev aLaw (K : PySem.W.Frag) : Addr := He.ga K "law"
abbrev fdLaw (K : PySem.W.Frag) : FuncData := fdK K dLaw.at_
abbrev NLaw : List Str := ["script", "source", "rows", "at", "right", "wrong", "k", "end", "text", "j", "starts", "line", "x", "column"]
abbrev PLaw : List Str := ["script"]
theorem fLaw (T : Txt K mg) : FunD K "law" "law" (defArgs sLaw) (defBody sLaw) (defScope sLaw) [] [] (aLaw K) (fdLaw K) := T.f (d := dLaw) 43
theorem scLaw : FnScope NLaw PLaw (defScope sLaw) := ⟨rfl, rfl, rfl, by decide +kernel, rfl, by decide +kernel, by decide +kernel⟩
theorem bLaw (T : Txt K mg) : Binds K (fdLaw K) PLaw [] := (fLaw T).bindsN fun _ _ _ _ _ _ us hl => match us, hl with | [_], _ => rfl
end
/-- the errors' class -/
theorem Txt.bad {K : PySem.W.Frag} {mg : Str → Option Value} (T : Txt K mg) : PySem.XB.XTxt Pg K mg "BadText" "BadText.__init__" (He.ga K "BadText") (He.ma K (He.ga K "BadText") "__init__") :=
  let ⟨_, X, G⟩ := T.h
  XH.xB_ok X G (T.c.x 0).1 (T.c.x 0).2 (by decide +kernel) ⟨_, _, _, _, _, _, _, _, _, _, _, _, _, _, _, _, _, _, rfl, rfl, rfl, rfl⟩
end K29
end

section
set_option Elab.async false
set_option linter.all false
set_option maxRecDepth 100000
set_option maxHeartbeats 4000000
/-! The plain side: texts as lists of numbers, the reading of a line as a function. -/
namespace K29
open PySem PySem.Spec PyProof.Rows L2 XT
/-! ### signs -/
def small (c : Nat) : Bool := decide (97 ≤ c ∧ c ≤ 122)
def great (c : Nat) : Bool := decide (65 ≤ c ∧ c ≤ 90)
def fig (c : Nat) : Bool := decide (48 ≤ c ∧ c ≤ 57)
def inRow (c : Nat) : Bool := small c || (great c || (fig c || decide (c = 95)))
/-- the words, as numbers -/
def WD : List (List Nat) := [[107, 105, 110, 100], [118, 97, 114], [109, 97, 107, 101], [97, 99, 116], [105, 102], [116, 104, 101, 110], [101, 108, 115, 101], [100, 111], [97, 110, 115, 119, 101, 114], [97, 110, 100], [111, 114], [110, 111, 116]]
/-! ### the reading of a line: the rest that is left, or the rest at which no line goes on -/
abbrev Pr (α : Type) := List Nat → Except (List Nat) (α × List Nat)
def pB (r : List Nat) : List Nat := r.dropWhile (fun c => c == 32)
theorem pB_sp (r : List Nat) : pB (32 :: r) = pB r := rfl
theorem pB_nil : pB [] = [] := rfl
theorem pB_ne {x : Nat} {r : List Nat} (h : x ≠ 32) : pB (x :: r) = x :: r := by
  have e : (x == 32) = false := by simpa using h
  simp [pB, List.dropWhile_cons, e]
theorem pB_idem (r : List Nat) : pB (pB r) = pB r := by
  induction r with
  | nil => rfl
  | cons x r ih =>
    by_cases h : x = 32
    · subst h; rw [pB_sp]; exact ih
    · rw [pB_ne h, pB_ne h]
def pGap : Pr Unit
  | 32 :: r => .ok ((), pB r)
  | r => .error r
def pTake : List Nat → Pr Unit
  | [], r => .ok ((), r)
  | _ :: _, [] => .error []
  | c :: s, x :: r => if x = c then pTake s r else .error (x :: r)
def val (ds : List Nat) : Nat := ds.foldl (fun n d => n * 10 + (d - 48)) 0
def pFig : Pr Nat
  | [] => .error []
  | c :: r => if c = 48 then .ok (0, r) else if fig c then .ok (val ((c :: r).takeWhile fig), (c :: r).dropWhile fig) else .error (c :: r)
def pWord (fits : Nat → Bool) : Pr (List Nat)
  | [] => .error []
  | c :: r => if fits c then (if (c :: r).takeWhile inRow ∈ WD then .error ((c :: r).dropWhile inRow) else .ok ((c :: r).takeWhile inRow, (c :: r).dropWhile inRow)) else .error (c :: r)
/-- the values that are handed, behind the bracket and its blanks; n bounds the turns -/
def pVals : Nat → List (List Nat) → Pr (List (List Nat))
  | 0, _, r => .error r
  | n + 1, acc, r => if r.head? = some 41 then .ok (acc, r) else
    (match (if acc = [] then Except.ok ((), r) else (match pTake [44] r with
      | .ok (_, r1) => .ok ((), pB r1)
      | .error e => .error e) : Except (List Nat) (Unit × List Nat)) with
    | .error e => .error e
    | .ok (_, r2) => match pWord great r2 with
      | .error e => .error e
      | .ok (w, r3) => pVals n (acc ++ [w]) (pB r3))
def pHanded : Pr (List (List Nat)) := fun r => match pTake [40] r with
  | .error e => .error e
  | .ok (_, r1) => match pVals (r.length + 1) [] (pB r1) with
    | .error e => .error e
    | .ok (vs, r2) => match pTake [41] r2 with
      | .error e => .error e
      | .ok (_, r3) => .ok (vs, r3)
/-- a call with its answer -/
structure CRow where
  isMk : Bool
  frame : Nat
  name : List Nat
  vals : List (List Nat)
  ans : Nat ⊕ List Nat
def wMake : List Nat := [109, 97, 107, 101]
def wAct : List Nat := [97, 99, 116]
/-- one reader, then the next -/
def seqP {α β : Type} (p : Except (List Nat) (α × List Nat)) (k : α → Pr β) : Except (List Nat) (β × List Nat) := match p with
  | .error e => .error e
  | .ok (a, r) => k a r
theorem seqP_ok {α β : Type} {p : Except (List Nat) (α × List Nat)} {k : α → Pr β} {a : α} {r : List Nat} (h : p = .ok (a, r)) : seqP p k = k a r := by rw [h]; rfl
theorem seqP_err {α β : Type} {p : Except (List Nat) (α × List Nat)} {k : α → Pr β} {e : List Nat} (h : p = .error e) : seqP p k = .error e := by rw [h]; rfl
def pAns (m : Bool) : Pr (Nat ⊕ List Nat) := fun r => if m then seqP (pFig r) (fun n r1 => .ok (.inl n, r1)) else seqP (pWord great r) (fun w r1 => .ok (.inr w, r1))
def pEnd {α : Type} (x : α) : Pr α
  | [] => .ok (x, [])
  | c :: r => .error (c :: r)
def pRowM (m : Bool) : Pr CRow := fun r =>
  seqP (pTake (if m then wMake else wAct) r) fun _ r1 =>
  seqP (pGap r1) fun _ r2 =>
  seqP (pFig r2) fun n r3 =>
  seqP (pGap r3) fun _ r4 =>
  seqP (pWord (if m then great else small) r4) fun x r5 =>
  seqP (pHanded (pB r5)) fun vs r6 =>
  seqP (pTake [45, 62] (pB r6)) fun _ r7 =>
  seqP (pAns m (pB r7)) fun a r8 =>
  pEnd ⟨m, n, x, vs, a⟩ (pB r8)
def pRow : Pr CRow := fun r => pRowM (r.head? == some 109) r
/-- a line: none where there is no call on it -/
def pLine (l : List Nat) : Except (List Nat) (Option CRow) := match pB l with
  | [] => .ok none
  | c :: r => match pRow (c :: r) with
    | .error e => .error e
    | .ok (x, _) => .ok (some x)
/-- the lines' calls, numbered; or the first line that is none: its number, the line, the rest -/
def toldL (n : Nat) : List (List Nat) → Except (Nat × List Nat × List Nat) (List (Nat × CRow))
  | [] => .ok []
  | x :: xs => match pLine x with
    | .error e => .error (n, x, e)
    | .ok none => toldL (n + 1) xs
    | .ok (some y) => match toldL (n + 1) xs with
      | .error e => .error e
      | .ok ys => .ok ((n, y) :: ys)
end K29
end

section
set_option Elab.async false
set_option linter.all false
set_option maxRecDepth 100000
set_option maxHeartbeats 4000000
/-! The class Line. -/
namespace K29
open PySem PySem.Spec PyProof.Rows L2 XT
/-! ### a line's object -/
abbrev cLine (K : PySem.W.Frag) : Addr := He.ga K "Line"
abbrev lf (z : Str) (n i : Int) : List (Str × V) := [("text", .str z), ("number", .int n), ("at", .int i)]
theorem ne1 : (("number" : Str) == "text") = false := by decide +kernel
theorem ne2 : (("at" : Str) == "text") = false := by decide +kernel
theorem ne3 : (("at" : Str) == "number") = false := by decide +kernel
theorem lf_text (z : Str) (n i : Int) : (lf z n i).lookup ("text" : Str) = some (.str z) := by simp [List.lookup]
theorem lf_number (z : Str) (n i : Int) : (lf z n i).lookup ("number" : Str) = some (.int n) := by simp [List.lookup, ne1]
theorem lf_at (z : Str) (n i : Int) : (lf z n i).lookup ("at" : Str) = some (.int i) := by simp [List.lookup, ne2, ne3]
theorem lf_no (z : Str) (n i : Int) {m : Str} (h1 : (m == ("text" : Str)) = false) (h2 : (m == ("number" : Str)) = false) (h3 : (m == ("at" : Str)) = false) : (lf z n i).lookup m = none := by simp [List.lookup, h1, h2, h3]
theorem lf_put (z : Str) (n i j : Int) : putF "at" (.int j) (lf z n i) = lf z n j := by
  have h1 : ¬ (("text" : Str) = "at") := by decide +kernel
  have h2 : ¬ (("number" : Str) = "at") := by decide +kernel
  show (if ("text" : Str) = "at" then _ else (("text" : Str), V.str z) :: (if ("number" : Str) = "at" then _ else (("number" : Str), V.int n) :: (if ("at" : Str) = "at" then [(("at" : Str), V.int j)] else _))) = _
  rw [if_neg h1, if_neg h2, if_pos rfl]
/-- the tables of the two defs that hold generator expressions -/
def tabs (K : PySem.W.Frag) : List Addr := [(He.cT K ("Names", some "path_of")).2, (He.cT K ("Maker", some "__init__")).2]
/-- these tables stand -/
def Tb (K : PySem.W.Frag) (H : Hp) : Prop := ∀ P ∈ tabs K, ∃ ps : Array Value, H P = some (.tbl ps) ∧ TriplesOk ps.toList
theorem Tb.same {K : PySem.W.Frag} {H H' : Hp} (t : Tb K H) (k : ∀ b o, H b = some o → H' b = some o) : Tb K H' := fun P hP => let ⟨ps, h1, h2⟩ := t P hP; ⟨ps, k _ _ h1, h2⟩
theorem Tb.keep {K : PySem.W.Frag} {H H' : Hp} {p : Addr} {u : HO} (t : Tb K H) (k : ∀ b o, H b = some o → b ≠ p → H' b = some o) (hp : H p = some u) (hu : ∀ ps, u ≠ .tbl ps) : Tb K H' := fun P hP => by
  obtain ⟨ps, h1, h2⟩ := t P hP
  refine ⟨ps, k _ _ h1 fun e => ?_, h2⟩
  rw [e, hp] at h1
  exact hu ps (Option.some.inj h1)
/-- a line over the text l, numbered n, of which r is left -/
structure LineAt (K : PySem.W.Frag) (H : Hp) (p : Addr) (l : List Nat) (n : Int) (r : List Nat) : Prop where
  ob : ∃ (a : List Nat) (dx : Addr), l = a ++ r ∧ H p = some (.ins (cLine K) dx (lf (tx l) n (a.length : Int)))
  small : l.length ≤ 1000000
  tb : Tb K H
/-- all but the object at p stands as it stood -/
def But (p : Addr) (H H' : Hp) : Prop := ∀ b o, H b = some o → b ≠ p → H' b = some o
theorem But.refl (p : Addr) (H : Hp) : But p H H := fun _ _ e _ => e
theorem But.trans {p : Addr} {H H1 H2 : Hp} (a : But p H H1) (b : But p H1 H2) : But p H H2 := fun c o e h => b c o (a c o e h) h
theorem But.upd (p : Addr) (H : Hp) (o : HO) : But p H (upd H p o) := fun b u e h => by rw [upd_ne h]; exact e
theorem LineAt.len {K : PySem.W.Frag} {H : Hp} {p : Addr} {l : List Nat} {n : Int} {r : List Nat} (x : LineAt K H p l n r) : (tx l).length ≤ sizeLine := by
  rw [tx_len, sizeLine_eq]
  have := x.small
  omega
/-- the line goes on -/
theorem LineAt.go {K : PySem.W.Frag} {H : Hp} {p : Addr} {l : List Nat} {n : Int} {a r r' : List Nat} {dx : Addr} (x : LineAt K H p l n r) (e : l = a ++ r') : LineAt K (L2.upd H p (.ins (cLine K) dx (lf (tx l) n (a.length : Int)))) p l n r' :=
  let ⟨_, _, _, hp⟩ := x.ob
  ⟨⟨a, dx, e, upd_same⟩, x.small, x.tb.keep (But.upd _ _ _) hp fun _ z => by cases z⟩
/-- where no line goes on -/
def colAt (l r : List Nat) : Int := (l.length : Int) - (r.length : Int) + 1
/-- what a line's error is: its class, its fields -/
def Bad (K : PySem.W.Frag) (l : List Nat) (n : Int) (E : XK) (r : List Nat) : Prop := ∀ (d : Addr) (H' : Hp), Tb K H' → H' d = some (.xd (xFs (.int n) (.int (colAt l r)))) → E (.ref (He.ga K "BadText")) (some d) H'
theorem iteNF {c : Bool} {A B : Prop} (hc : c = false) (h : A) : if (!c) = true then A else B := by
  rw [hc]
  exact iteT h
/-! ### promises -/
def spNow (K : PySem.W.Frag) : Sp := fun vs H Q _ => ∃ (p : Addr) (l : List Nat) (n : Int) (r : List Nat), vs = [.ref p] ∧ LineAt K H p l n r ∧ Q (.str (tx (r.take 1))) H
def spBlanks (K : PySem.W.Frag) : Sp := fun vs H Q _ => ∃ (p : Addr) (l : List Nat) (n : Int) (r : List Nat), vs = [.ref p] ∧ LineAt K H p l n r ∧ ∀ H', LineAt K H' p l n (pB r) → But p H H' → Q .non H'
def spRefuse (K : PySem.W.Frag) : Sp := fun vs H _ E => ∃ (p : Addr) (l : List Nat) (n : Int) (r : List Nat), vs = [.ref p] ∧ LineAt K H p l n r ∧ Bad K l n E r
section
variable {w : World} {K : PySem.W.Frag} {mg : Str → Option Value} {base : Heap}
theorem ok_now (T : Txt K mg) : FnOk Pg w K mg base CX0 1 (aLineNow K) (fdLineNow K) PLineNow (spNow K) := by
  refine (fLineNow T).ok0 scLineNow (fun vs H Q E h => ?_) (fun cdv A outer s H vs Q E hr h => ?_)
  · obtain ⟨p, l, n, r, rfl, _⟩ := h
    rfl
  · obtain ⟨p, l, n, r, rfl, X, k⟩ := h
    obtain ⟨⟨a, dx, el, hp⟩, hs⟩ := id X
    refine ⟨_, pss_one (ps_ret (pe_slice sl_str (pe_fld (pv 0) rfl) (po_some (pe_fld (pv 0) rfl)) (po_some (pe_op op_add (pe_fld (pv 0) rfl) pe_int)))), ?_⟩
    refine ⟨_, rfl, p, _, dx, _, _, rfl, hp, clLine T, naLine_text T, lf_text _ _ _, ?_⟩
    refine ⟨_, rfl, p, _, dx, _, _, rfl, hp, clLine T, naLine_at T, lf_at _ _ _, _, rfl, ?_⟩
    refine ⟨_, rfl, p, _, dx, _, _, rfl, hp, clLine T, naLine_at T, lf_at _ _ _, _, _, rfl, rfl, _, rfl, ?_⟩
    refine ⟨_, rfl, X.len, ?_⟩
    have e : cutS (tx l) (some (a.length : Int)) (some ((a.length : Int) + 1)) = tx (r.take 1) := by
      have := cut_tx l a.length (a.length + 1)
      rw [show (((a.length + 1 : Nat)) : Int) = (a.length : Int) + 1 by omega] at this
      rw [this, el]
      congr 1
      rw [List.take_append, List.drop_append]
      simp
    show Q (.str (cutS (tx l) (some (a.length : Int)) (some ((a.length : Int) + 1)))) H
    rw [e]
    exact k
theorem ok_blanks (T : Txt K mg) : FnOk Pg w K mg base CX0 2 (aLineBlanks K) (fdLineBlanks K) PLineBlanks (spBlanks K) := by
  refine (fLineBlanks T).ok0 scLineBlanks (fun vs H Q E h => ?_) (fun cdv A outer s H vs Q E hr h => ?_)
  · obtain ⟨p, l, n, r, rfl, _⟩ := h
    rfl
  · obtain ⟨p, l, n, r, rfl, X, k⟩ := h
    refine ⟨_, pss_one (ps_while PassesOwn.never (pt_cmpR op_eq (pe_meth0 (pv 0) (clLine T) (meLine_now T) (ok_now T) hr (bLineNow T) .nil pass0) pe_str (nomark _))
      (pss_one (ps_fldaug (pv 0) pe_int in_add))), ?_⟩
    refine ⟨fun m σ H' => ∃ r', m = r'.length ∧ σ = [some (.ref p)] ∧ LineAt K H' p l n r' ∧ But p H H' ∧ pB r' = pB r, ⟨_, r, rfl, rfl, X, But.refl _ _, rfl⟩, ?_⟩
    rintro m σ H1 ⟨r1, rfl, rfl, X1, B1, e1⟩
    obtain ⟨⟨a, dx, el, hp⟩, hs⟩ := id X1
    refine ⟨_, rfl, p, dx, _, rfl, hp, lf_no _ _ _ (by decide +kernel) (by decide +kernel) (by decide +kernel), p, l, n, r1, rfl, X1, rfl, _, rfl, ?_⟩
    rw [z_sp]
    refine ite2 (fun c => ?_) (fun c => ?_)
    · obtain ⟨r2, e2⟩ := (one_eq _ _).mp c
      refine ⟨fun σ H' => σ = [some (.ref p)] ∧ LineAt K H' p l n r2 ∧ But p H H', ?_, ?_⟩
      · rintro σ' H' ⟨rfl, X2, B2⟩
        refine ⟨r2.length, by rw [e2]; simp, r2, rfl, rfl, X2, B2, ?_⟩
        rw [← e1, e2]
        rfl
      · refine ⟨_, rfl, p, _, dx, _, _, rfl, hp, clLine T, naLine_at T, lf_at _ _ _, _, _, rfl, rfl, dx, _, hp, by show 3 < 1000; decide, rfl, ?_, B1.trans (But.upd _ _ _)⟩
        rw [lf_put]
        have := X1.go (a := a ++ [32]) (r' := r2) (dx := dx) (by rw [el, e2]; simp)
        simpa using this
    · refine k _ ?_ B1
      have e3 : pB r1 = r1 := by
        cases r1 with
        | nil => rfl
        | cons x r2 =>
          have : x ≠ 32 := fun e => c ((one_eq _ _).mpr ⟨r2, by rw [e]⟩)
          exact pB_ne this
      rw [← e1, e3]
      exact X1
theorem ok_refuse (T : Txt K mg) : FnOk Pg w K mg base (L2N.CX Pg w) 3 (aLineRefuse K) (fdLineRefuse K) PLineRefuse (spRefuse K) := by
  refine (fLineRefuse T).okX scLineRefuse (fun vs H Q E h => ?_) (fun cdv A outer s H vs Q E hr h => ?_)
  · obtain ⟨p, l, n, r, rfl, _⟩ := h
    rfl
  · obtain ⟨p, l, n, r, rfl, X, k⟩ := h
    obtain ⟨⟨a, dx, el, hp⟩, hs⟩ := id X
    refine ⟨_, pss_one (ps_raiseX rfl (Txt.bad T) hr (L2N.takes_of rfl rfl rfl rfl) (pa_cons (pe_fld (pv 0) rfl) (pa_cons (pe_op op_add (pe_fld (pv 0) rfl) pe_int) pa_nil))), ?_⟩
    refine ⟨_, rfl, p, _, dx, _, _, rfl, hp, clLine T, naLine_number T, lf_number _ _ _, ?_⟩
    refine ⟨_, rfl, p, _, dx, _, _, rfl, hp, clLine T, naLine_at T, lf_at _ _ _, _, _, rfl, rfl, _, _, rfl, fun d hd => ?_⟩
    refine k d _ (X.tb.same fun b o e => by rw [upd_ne (ne_of_none e hd)]; exact e) ?_
    have e : colAt l r = (a.length : Int) + 1 := by
      unfold colAt
      rw [el, List.length_append]
      omega
    rw [upd_same, e]
/-- what a reader promises: the rest behind it, or the rest at which it refuses -/
def Reads {α : Type} (K : PySem.W.Frag) (H : Hp) (p : Addr) (l : List Nat) (n : Int) (x : Except (List Nat) (α × List Nat)) (E : XK) (k : α → Hp → Prop) : Prop :=
  (∀ a r, x = .ok (a, r) → ∀ H', LineAt K H' p l n r → But p H H' → k a H') ∧ ∀ e, x = .error e → Bad K l n E e
def spGap (K : PySem.W.Frag) : Sp := fun vs H Q E => ∃ (p : Addr) (l : List Nat) (n : Int) (r : List Nat), vs = [.ref p] ∧ LineAt K H p l n r ∧ Reads K H p l n (pGap r) E fun _ H' => Q .non H'
theorem ok_gap (T : Txt K mg) : FnOk Pg w K mg base (L2N.CX Pg w) 4 (aLineGap K) (fdLineGap K) PLineGap (spGap K) := by
  refine (fLineGap T).okX scLineGap (fun vs H Q E h => ?_) (fun cdv A outer s H vs Q E hr h => ?_)
  · obtain ⟨p, l, n, r, rfl, _⟩ := h
    rfl
  · obtain ⟨p, l, n, r, rfl, X, k, ke⟩ := h
    have hr1 : Room 1 _ := hr.mono (by decide)
    have hr2 : Room 2 _ := hr.mono (by decide)
    obtain ⟨⟨a, dx, el, hp⟩, hs⟩ := id X
    refine ⟨_, pss_cons (ps_if (pt_cmpR op_ne (pe_meth0 (pv 0) (clLine T) (meLine_now T) (ok_now T) hr1 (bLineNow T) .nil pass0) pe_str (nomark _))
        (pss_one (ps_expr (pe_meth0 (pv 0) (clLine T) (meLine_refuse T) (ok_refuse T) hr (bLineRefuse T) .nil passX))) pss_nil)
      (pss_one (ps_expr (pe_meth0 (pv 0) (clLine T) (meLine_blanks T) (ok_blanks T) hr2 (bLineBlanks T) .nil pass0))), ?_⟩
    refine ⟨_, rfl, p, dx, _, rfl, hp, lf_no _ _ _ (by decide +kernel) (by decide +kernel) (by decide +kernel), p, l, n, r, rfl, X, rfl, _, rfl, ?_⟩
    rw [z_sp]
    by_cases c : decide (V.str (tx (r.take 1)) = V.str (tx [32])) = true
    · obtain ⟨r2, e2⟩ := (one_eq _ _).mp c
      refine iteNS (of_decide_eq_true c) ?_
      refine ⟨_, rfl, p, dx, _, rfl, hp, lf_no _ _ _ (by decide +kernel) (by decide +kernel) (by decide +kernel), p, l, n, r, rfl, X, fun H' X' B' => ?_⟩
      refine k () (pB r) ?_ H' X' B'
      rw [e2]
      rfl
    · have c' : decide (V.str (tx (r.take 1)) = V.str (tx [32])) = false := by simpa using c
      refine iteNF c' ?_
      refine ⟨_, rfl, p, dx, _, rfl, hp, lf_no _ _ _ (by decide +kernel) (by decide +kernel) (by decide +kernel), p, l, n, r, rfl, X, ke r ?_⟩
      cases r with
      | nil => rfl
      | cons x r2 =>
        by_cases h : x = 32
        · exact absurd ((one_eq _ _).mpr ⟨r2, by rw [h]⟩) c
        · unfold pGap
          split
          · rename_i e
            cases e
            exact absurd rfl h
          · rfl
def spTake (K : PySem.W.Frag) : Sp := fun vs H Q E => ∃ (p : Addr) (l : List Nat) (n : Int) (r s : List Nat), vs = [.ref p, .str (tx s)] ∧ LineAt K H p l n r ∧ Reads K H p l n (pTake s r) E fun _ H' => Q .non H'
theorem pTake_cons (s : List Nat) (c : Nat) (r : List Nat) : pTake (c :: s) (c :: r) = pTake s r := by simp [pTake]
theorem pTake_no {s : List Nat} {c : Nat} {r : List Nat} (h : ¬ ∃ r', r = c :: r') : pTake (c :: s) r = .error r := by
  cases r with
  | nil => rfl
  | cons x r =>
    have : ¬ x = c := fun e => h ⟨r, by rw [e]⟩
    simp [pTake, this]
theorem ok_take (T : Txt K mg) : FnOk Pg w K mg base (L2N.CX Pg w) 4 (aLineTake K) (fdLineTake K) PLineTake (spTake K) := by
  refine (fLineTake T).okX scLineTake (fun vs H Q E h => ?_) (fun cdv A outer s H vs Q E hr h => ?_)
  · obtain ⟨p, l, n, r, s, rfl, _⟩ := h
    rfl
  · obtain ⟨p, l, n, r, s, rfl, X, k, ke⟩ := h
    have hr1 : Room 1 _ := hr.mono (by decide)
    refine ⟨_, pss_one (ps_for (passes_of rfl) rfl (pi_str (pv 1)) (pg_name (i := 2) scLineTake.nd rfl (Or.inl rfl))
      (pss_cons (ps_if (pt_cmpR op_ne (pe_meth0 (pv 0) (clLine T) (meLine_now T) (ok_now T) hr1 (bLineNow T) .nil pass0) (pv 2) (nomark _))
        (pss_one (ps_expr (pe_meth0 (pv 0) (clLine T) (meLine_refuse T) (ok_refuse T) hr (bLineRefuse T) .nil passX))) pss_nil)
      (pss_one (ps_fldaug (pv 0) pe_int in_add)))), ?_⟩
    refine ⟨_, rfl, _, rfl, for_text (fun i σ H1 => ∃ (v : Option V) (r1 : List Nat), σ = [some (.ref p), some (.str (tx s)), v] ∧ LineAt K H1 p l n r1 ∧ But p H H1 ∧ pTake (s.drop i) r1 = pTake s r) ⟨none, r, rfl, X, But.refl _ _, rfl⟩ ?_ ?_⟩
    · rintro i c σ H1 hi ⟨v, r1, rfl, X1, B1, e1⟩
      have hd : s.drop i = c :: s.drop (i + 1) := by
        obtain ⟨h1, h2⟩ := List.getElem?_eq_some_iff.mp hi
        rw [List.drop_eq_getElem_cons h1, h2]
      obtain ⟨⟨a, dx, el, hp⟩, hs⟩ := id X1
      refine ⟨_, rfl, p, dx, _, rfl, hp, lf_no _ _ _ (by decide +kernel) (by decide +kernel) (by decide +kernel), p, l, n, r1, rfl, X1, _, rfl, rfl, _, rfl, ?_⟩
      by_cases hc : decide (V.str (tx (r1.take 1)) = V.str (tx [c])) = true
      · obtain ⟨r2, e2⟩ := (one_eq _ _).mp hc
        refine iteNS (of_decide_eq_true hc) ?_
        refine ⟨_, rfl, p, _, dx, _, _, rfl, hp, clLine T, naLine_at T, lf_at _ _ _, _, _, rfl, rfl, dx, _, hp, by show 3 < 1000; decide, _, r2, rfl, ?_, B1.trans (But.upd _ _ _), ?_⟩
        · rw [lf_put]
          have := X1.go (a := a ++ [c]) (r' := r2) (dx := dx) (by rw [el, e2]; simp)
          simpa using this
        · rw [← e1, hd, e2, pTake_cons]
      · have c' : decide (V.str (tx (r1.take 1)) = V.str (tx [c])) = false := by simpa using hc
        refine iteNF c' ?_
        refine ⟨_, rfl, p, dx, _, rfl, hp, lf_no _ _ _ (by decide +kernel) (by decide +kernel) (by decide +kernel), p, l, n, r1, rfl, X1, ke r1 ?_⟩
        rw [← e1, hd]
        exact pTake_no fun h => hc ((one_eq _ _).mpr h)
    · rintro σ H1 ⟨v, r1, rfl, X1, B1, e1⟩
      refine k () r1 ?_ H1 X1 B1
      rw [← e1]
      simp [pTake]
end
end K29
end

section
set_option Elab.async false
set_option linter.all false
set_option maxRecDepth 100000
set_option maxHeartbeats 4000000
namespace K29
open PySem PySem.Spec PyProof.Rows L2 XT
theorem fig_of (r : List Nat) : (leO 48 r && geO 57 r) = (match r with | x :: _ => fig x | [] => false) := by
  cases r with
  | nil => rfl
  | cons x r =>
    show (decide (48 ≤ x) && decide (x ≤ 57)) = fig x
    unfold fig
    rw [Bool.decide_and]
theorem val_snoc (d : List Nat) (x : Nat) : val (d ++ [x]) = val d * 10 + (x - 48) := by simp [val]
def spFigure (K : PySem.W.Frag) : Sp := fun vs H Q E => ∃ (p : Addr) (l : List Nat) (n : Int) (r : List Nat), vs = [.ref p] ∧ LineAt K H p l n r ∧ Reads K H p l n (pFig r) E fun a H' => Q (.int (a : Nat)) H'
section
variable {w : World} {K : PySem.W.Frag} {mg : Str → Option Value} {base : Heap}
theorem no_m {z : Str} {n i : Int} (m : Str) (h1 : (m == ("text" : Str)) = false := by decide +kernel) (h2 : (m == ("number" : Str)) = false := by decide +kernel) (h3 : (m == ("at" : Str)) = false := by decide +kernel) : (lf z n i).lookup m = none := lf_no z n i h1 h2 h3
theorem ok_figure (T : Txt K mg) : FnOk Pg w K mg base (L2N.CX Pg w) 4 (aLineFigure K) (fdLineFigure K) PLineFigure (spFigure K) := by
  refine (fLineFigure T).okX scLineFigure (fun vs H Q E h => ?_) (fun cdv A outer s H vs Q E hr h => ?_)
  · obtain ⟨p, l, n, r, rfl, _⟩ := h
    rfl
  · obtain ⟨p, l, n, r, rfl, X, k, ke⟩ := h
    have hr1 : Room 1 _ := hr.mono (by decide)
    refine ⟨_, pss_cons (ps_if (pt_cmpR op_eq (pe_meth0 (pv 0) (clLine T) (meLine_now T) (ok_now T) hr1 (bLineNow T) .nil pass0) pe_str (nomark _))
        (pss_cons (ps_fldaug (pv 0) pe_int in_add) (pss_one (ps_ret pe_int))) pss_nil)
      (pss_cons (ps_if (pt_not (pt_chain op_le_str op_le_str pe_str (pe_meth0 (pv 0) (clLine T) (meLine_now T) (ok_now T) hr1 (bLineNow T) .nil pass0) pe_str))
        (pss_one (ps_expr (pe_meth0 (pv 0) (clLine T) (meLine_refuse T) (ok_refuse T) hr (bLineRefuse T) .nil passX))) pss_nil)
      (pss_cons (ps_set (i := 1) scLineFigure.nd rfl (Or.inl rfl) pe_int)
      (pss_cons (ps_while (passes_of rfl) (pt_chain op_le_str op_le_str pe_str (pe_meth0 (pv 0) (clLine T) (meLine_now T) (ok_now T) hr1 (bLineNow T) .nil pass0) pe_str)
        (pss_cons (ps_set (i := 1) scLineFigure.nd rfl (Or.inl rfl) (pe_op op_sub (pe_op op_add (pe_op op_mul (pv 1) pe_int) (pe_callB call_ord (by rfl) (nOrd T) (by decide +kernel) (pa_cons (pe_meth0 (pv 0) (clLine T) (meLine_now T) (ok_now T) hr1 (bLineNow T) .nil pass0) pa_nil)))
          (pe_callB call_ord (by rfl) (nOrd T) (by decide +kernel) (pa_cons pe_str pa_nil))))
        (pss_one (ps_fldaug (pv 0) pe_int in_add))))
      (pss_one (ps_ret (pv 1)))))), ?_⟩
    obtain ⟨⟨a, dx, el, hp⟩, hs⟩ := id X
    refine ⟨_, rfl, p, dx, _, rfl, hp, no_m "now", p, l, n, r, rfl, X, rfl, _, rfl, ?_⟩
    rw [z_0]
    refine ite2 (fun c => ?_) (fun c => ?_)
    · -- a nought
      obtain ⟨r2, e2⟩ := (one_eq _ _).mp c
      refine ⟨_, rfl, p, _, dx, _, _, rfl, hp, clLine T, naLine_at T, lf_at _ _ _, _, _, rfl, rfl, dx, _, hp, by show 3 < 1000; decide, ?_⟩
      refine k 0 r2 (by rw [e2]; rfl) _ ?_ (But.upd _ _ _)
      rw [lf_put]
      have := X.go (a := a ++ [48]) (r' := r2) (dx := dx) (by rw [el, e2]; simp)
      simpa using this
    · have h48 : ∀ r', r ≠ 48 :: r' := fun r' e => c ((one_eq _ _).mpr ⟨r', e⟩)
      refine ⟨_, rfl, p, dx, _, rfl, hp, no_m "now", p, l, n, r, rfl, X, _, _, rfl, rfl, _, rfl, ?_⟩
      rw [z_1, z_9, le_one]
      -- not a figure: refused
      have bad : (leO 49 r && geO 57 r) = false → (∀ e, pFig r = .error e → Bad K l n E e) → Bad K l n E r := fun hb he => he r (by
        cases r with
        | nil => rfl
        | cons x r2 =>
          have h1 : ¬ x = 48 := fun e => h48 r2 (by rw [e])
          have h2 : fig x = false := by
            have h3 : (decide (49 ≤ x) && decide (x ≤ 57)) = false := hb
            unfold fig
            rw [Bool.and_eq_false_iff] at h3
            refine decide_eq_false ?_
            rcases h3 with h3 | h3
            · have := of_decide_eq_false h3
              omega
            · have := of_decide_eq_false h3
              omega
          simp [pFig, h1, h2])
      cases h1 : leO 49 r with
      | false =>
        refine iteF ⟨_, rfl, iteT ?_⟩
        exact ⟨_, rfl, p, dx, _, rfl, hp, no_m "refuse", p, l, n, r, rfl, X, bad (by rw [h1]; rfl) ke⟩
      | true =>
        refine iteT ⟨_, _, rfl, rfl, _, rfl, ?_⟩
        rw [ge_one]
        cases h2 : geO 57 r with
        | false =>
          refine iteT ?_
          exact ⟨_, rfl, p, dx, _, rfl, hp, no_m "refuse", p, l, n, r, rfl, X, bad (by rw [h1, h2]; rfl) ke⟩
        | true =>
          refine iteF ?_
          -- the loop
          refine ⟨fun m σ H1 => ∃ d r1, m = r1.length ∧ σ = [some (.ref p), some (.int (val d : Nat))] ∧ LineAt K H1 p l n r1 ∧ But p H H1 ∧ r.takeWhile fig = d ++ r1.takeWhile fig ∧ r.dropWhile fig = r1.dropWhile fig, ⟨_, [], r, rfl, rfl, X, But.refl _ _, rfl, rfl⟩, ?_⟩
          rintro m σ H1 ⟨d, r1, rfl, rfl, X1, B1, t1, d1⟩
          obtain ⟨⟨a1, dx1, el1, hp1⟩, hs1⟩ := id X1
          refine ⟨_, rfl, p, dx1, _, rfl, hp1, no_m "now", p, l, n, r1, rfl, X1, _, _, rfl, rfl, _, rfl, ?_⟩
          rw [le_one]
          have done : (leO 48 r1 && geO 57 r1) = false → Q (.int (val d : Nat)) H1 := fun hb => by
            have e1 : r1.takeWhile fig = [] ∧ r1.dropWhile fig = r1 := by
              rw [fig_of] at hb
              cases r1 with
              | nil => exact ⟨rfl, rfl⟩
              | cons x r2 =>
                have hb' : fig x = false := hb
                simp [List.takeWhile_cons, List.dropWhile_cons, hb']
            refine k (val d) r1 ?_ H1 X1 B1
            have e2 : pFig r = .ok (val (r.takeWhile fig), r.dropWhile fig) := by
              cases r with
              | nil => cases h1
              | cons x r2 =>
                have h3 : ¬ x = 48 := fun e => h48 r2 (by rw [e])
                have h4 : fig x = true := by
                  have z1 : decide (49 ≤ x) = true := h1
                  have z2 : decide (x ≤ 57) = true := h2
                  unfold fig
                  refine decide_eq_true ⟨?_, of_decide_eq_true z2⟩
                  have := of_decide_eq_true z1
                  omega
                simp only [pFig, if_neg h3, h4, if_true]
            rw [e2, t1, d1, e1.1, e1.2, List.append_nil]
          cases g1 : leO 48 r1 with
          | false => exact iteF ⟨_, rfl, iteF ⟨_, rfl, done (by rw [g1]; rfl)⟩⟩
          | true =>
            refine iteT ⟨_, _, rfl, rfl, _, rfl, ?_⟩
            rw [ge_one]
            cases g2 : geO 57 r1 with
            | false => exact iteF ⟨_, rfl, done (by rw [g1, g2]; rfl)⟩
            | true =>
              refine iteT ?_
              obtain ⟨x, r2, rfl⟩ : ∃ x r2, r1 = x :: r2 := by
                cases r1 with
                | nil => cases g1
                | cons x r2 => exact ⟨x, r2, rfl⟩
              have z1 : 48 ≤ x := of_decide_eq_true (show decide (48 ≤ x) = true from g1)
              have z2 : x ≤ 57 := of_decide_eq_true (show decide (x ≤ 57) = true from g2)
              have hx : fig x = true := by
                unfold fig
                exact decide_eq_true ⟨z1, z2⟩
              refine ⟨fun σ H2 => σ = [some (.ref p), some (.int (val (d ++ [x]) : Nat))] ∧ LineAt K H2 p l n r2 ∧ But p H H2, ?_, ?_⟩
              · rintro σ' H' ⟨rfl, X2, B2⟩
                refine ⟨r2.length, by simp, d ++ [x], r2, rfl, rfl, X2, B2, ?_, ?_⟩
                · rw [t1, List.takeWhile_cons, hx]
                  simp
                · rw [d1, List.dropWhile_cons, hx]
                  simp
              · refine ⟨_, rfl, _, _, rfl, rfl, .inr ⟨by decide, by decide⟩, ?_⟩
                refine ⟨_, rfl, p, dx1, _, rfl, hp1, no_m "now", p, l, n, _, rfl, X1, _, rfl, rfl, _, _, rfl, rfl, ?_⟩
                refine ⟨_, rfl, by decide +kernel, _, _, rfl, rfl, ?_⟩
                refine ⟨_, rfl, p, _, dx1, _, _, rfl, hp1, clLine T, naLine_at T, lf_at _ _ _, _, _, rfl, rfl, dx1, _, hp1, by show 3 < 1000; decide, ?_, ?_, B1.trans (But.upd _ _ _)⟩
                · have e5 : ((tx [48]).cps.getD 0 0 : Nat) = 48 := by decide +kernel
                  have e6 : ((tx ((x :: r2).take 1)).cps.getD 0 0 : Nat) = x := by simp [tx]
                  show [some (V.ref p), some (V.int ((val d : Nat) * 10 + (((tx ((x :: r2).take 1)).cps.getD 0 0 : Nat) : Int) - (((tx [48]).cps.getD 0 0 : Nat) : Int)))] = _
                  have e7 : ((val d : Nat) : Int) * 10 + (((tx ((x :: r2).take 1)).cps.getD 0 0 : Nat) : Int) - (((tx [48]).cps.getD 0 0 : Nat) : Int) = ((val (d ++ [x]) : Nat) : Int) := by
                    rw [e5, e6, val_snoc]
                    omega
                  rw [e7]
                · rw [lf_put]
                  have := X1.go (a := a1 ++ [x]) (r' := r2) (dx := dx1) (by rw [el1]; simp)
                  simpa using this
/-! ### the signs' sorts -/
def oneB (f : Nat → Bool) : List Nat → Bool
  | c :: _ => f c
  | [] => false
def spIs (f : Nat → Bool) : Sp := fun vs H Q _ => ∃ r : List Nat, vs = [.str (tx (r.take 1))] ∧ Q (.bl (oneB f r)) H
theorem between (lo hi : Nat) (h : lo ≤ hi) (f : Nat → Bool) (hf : ∀ c, f c = decide (lo ≤ c ∧ c ≤ hi)) (r : List Nat) : (leO lo r && geO hi r) = oneB f r := by
  cases r with
  | nil => rfl
  | cons x r =>
    show (decide (lo ≤ x) && decide (x ≤ hi)) = f x
    rw [hf, Bool.decide_and]
theorem chain_is {lo hi : Nat} {r : List Nat} {H : Hp} {Q : VK} {k : Bool} (e : (leO lo r && geO hi r) = k) (q : Q (.bl k) H) :
    if (!decide ((tx (r.take 1)).cps.toList < (tx [lo]).cps.toList)) = true then Q (.bl (!decide ((tx [hi]).cps.toList < (tx (r.take 1)).cps.toList))) H else Q (.bl false) H := by
  rw [le_one, ge_one]
  cases h : leO lo r with
  | false =>
    rw [h] at e
    subst e
    exact iteF q
  | true =>
    rw [h] at e
    refine iteT ?_
    rw [show geO hi r = k from e]
    exact q
theorem ok_small (T : Txt K mg) : FnOk Pg w K mg base CX0 1 (aIsSmall K) (fdIsSmall K) PIsSmall (spIs small) := by
  refine (fIsSmall T).ok0 scIsSmall (fun vs H Q E h => ?_) (fun cdv A outer s H vs Q E hr h => ?_)
  · obtain ⟨r, rfl, _⟩ := h
    rfl
  · obtain ⟨r, rfl, k⟩ := h
    refine ⟨_, pss_one (ps_ret (pe_chain op_le_str op_le_str pe_str (pv 0) pe_str)), ?_⟩
    refine ⟨_, rfl, _, _, rfl, rfl, _, rfl, ?_⟩
    rw [z_la, z_lz]
    have g := chain_is (H := H) (Q := Q) (between 97 122 (by decide) small (fun _ => rfl) r) k
    by_cases h : (!decide ((tx (r.take 1)).cps.toList < (tx [97]).cps.toList)) = true
    · rw [if_pos h] at g ⊢
      exact ⟨_, _, rfl, rfl, g⟩
    · rw [if_neg h] at g ⊢
      exact g
theorem ok_great (T : Txt K mg) : FnOk Pg w K mg base CX0 1 (aIsGreat K) (fdIsGreat K) PIsGreat (spIs great) := by
  refine (fIsGreat T).ok0 scIsGreat (fun vs H Q E h => ?_) (fun cdv A outer s H vs Q E hr h => ?_)
  · obtain ⟨r, rfl, _⟩ := h
    rfl
  · obtain ⟨r, rfl, k⟩ := h
    refine ⟨_, pss_one (ps_ret (pe_chain op_le_str op_le_str pe_str (pv 0) pe_str)), ?_⟩
    refine ⟨_, rfl, _, _, rfl, rfl, _, rfl, ?_⟩
    rw [z_ga, z_gz]
    have g := chain_is (H := H) (Q := Q) (between 65 90 (by decide) great (fun _ => rfl) r) k
    by_cases h : (!decide ((tx (r.take 1)).cps.toList < (tx [65]).cps.toList)) = true
    · rw [if_pos h] at g ⊢
      exact ⟨_, _, rfl, rfl, g⟩
    · rw [if_neg h] at g ⊢
      exact g
theorem ok_inRow (T : Txt K mg) : FnOk Pg w K mg base CX0 2 (aInRow K) (fdInRow K) PInRow (spIs inRow) := by
  refine (fInRow T).ok0 scInRow (fun vs H Q E h => ?_) (fun cdv A outer s H vs Q E hr h => ?_)
  · obtain ⟨r, rfl, _⟩ := h
    rfl
  · obtain ⟨r, rfl, k⟩ := h
    refine ⟨_, pss_one (ps_ret (pe_or (pe_call (ok_small T) hr rfl (gIsSmall T) (fIsSmall T).kp (bIsSmall T) .nil pass0 (pa_cons (pv 0) pa_nil))
      (pe_or (pe_call (ok_great T) hr rfl (gIsGreat T) (fIsGreat T).kp (bIsGreat T) .nil pass0 (pa_cons (pv 0) pa_nil))
      (pe_or (pe_chain op_le_str op_le_str pe_str (pv 0) pe_str) (pe_one (pe_cmpR op_eq (pv 0) pe_str (nomark _))))))), ?_⟩
    have e : oneB inRow r = (oneB small r || (oneB great r || (oneB fig r || oneB (fun c => decide (c = 95)) r))) := by
      cases r <;> rfl
    rw [e] at k
    refine ⟨_, rfl, r, rfl, _, rfl, ?_⟩
    cases h1 : oneB small r with
    | true =>
      rw [h1] at k
      exact iteT k
    | false =>
      rw [h1] at k
      refine iteF ⟨_, rfl, r, rfl, _, rfl, ?_⟩
      cases h2 : oneB great r with
      | true =>
        rw [h2] at k
        exact iteT k
      | false =>
        rw [h2] at k
        refine iteF ⟨_, rfl, _, _, rfl, rfl, _, rfl, ?_⟩
        rw [z_0, z_9, z_us]
        have lst : oneB fig r = false → tOp rEq (tVar 0) (tC (V.str (tx [95]))) [some (V.str (tx (r.take 1)))] H Q := fun hf => by
          refine ⟨_, rfl, rfl, ?_⟩
          have e3 : decide (V.str (tx (r.take 1)) = V.str (tx [95])) = oneB (fun c => decide (c = 95)) r := by
            rw [dec_tx]
            cases r with
            | nil => rfl
            | cons x r => simp [oneB]
          rw [e3]
          rw [hf] at k
          exact k
        have b := between 48 57 (by decide) fig (fun _ => rfl) r
        rw [le_one]
        cases h3 : leO 48 r with
        | false =>
          rw [h3] at b
          exact iteF ⟨_, rfl, iteF (lst b.symm)⟩
        | true =>
          rw [h3] at b
          refine iteT ⟨_, _, rfl, rfl, _, rfl, ?_⟩
          rw [ge_one]
          have b' : geO 57 r = oneB fig r := b
          rw [b']
          cases h4 : oneB fig r with
          | true =>
            rw [h4] at k
            exact iteT k
          | false => exact iteF (lst h4)
end
end K29
end

section
set_option Elab.async false
set_option linter.all false
set_option maxRecDepth 100000
set_option maxHeartbeats 4000000
namespace K29
open PySem PySem.Spec PyProof.Rows L2 XT
/-- the words, where the module keeps them -/
theorem words_at {K : PySem.W.Frag} {mg : Str → Option Value} (T : Txt K mg) (H : Hp) : SqT K H (He.ga K "WORDS") (WD.map fun w => V.str (tx w)) := by
  have h := He.tupB_ok T.c.e H
  have e : ([V.str "kind", .str "var", .str "make", .str "act", .str "if", .str "then", .str "else", .str "do", .str "answer", .str "and", .str "or", .str "not"] : List V) = WD.map fun w => V.str (tx w) := by decide +kernel
  rw [← e]
  exact h
inductive Fit (K : PySem.W.Frag) : Addr → (Nat → Bool) → Prop where
  | small : Fit K (aIsSmall K) small
  | great : Fit K (aIsGreat K) great
def spWord (K : PySem.W.Frag) : Sp := fun vs H Q E => ∃ (p : Addr) (l : List Nat) (n : Int) (r : List Nat) (f : Addr) (fits : Nat → Bool), vs = [.ref p, .ref f] ∧ Fit K f fits ∧ LineAt K H p l n r ∧ Reads K H p l n (pWord fits r) E fun a H' => Q (.str (tx a)) H'
section
variable {w : World} {K : PySem.W.Frag} {mg : Str → Option Value} {base : Heap}
theorem Fit.ok {f : Addr} {fits : Nat → Bool} (F : Fit K f fits) (T : Txt K mg) : ∃ fd, FnOk Pg w K mg base CX0 1 f fd ["sign"] (spIs fits) ∧ PySem.W.keepIn K (.ref f) = true ∧ Binds K fd ["sign"] [] := by
  cases F with
  | small => exact ⟨_, ok_small T, (fIsSmall T).kp, bIsSmall T⟩
  | great => exact ⟨_, ok_great T, (fIsGreat T).kp, bIsGreat T⟩
theorem ok_word (T : Txt K mg) : FnOk Pg w K mg base (L2N.CX Pg w) 4 (aLineWord K) (fdLineWord K) PLineWord (spWord K) := by
  refine (fLineWord T).okX scLineWord (fun vs H Q E h => ?_) (fun cdv A outer s H vs Q E hr h => ?_)
  · obtain ⟨p, l, n, r, f, fits, rfl, _⟩ := h
    rfl
  · obtain ⟨p, l, n, r, f, fits, rfl, F, X, k, ke⟩ := h
    have hr1 : Room 1 _ := hr.mono (by decide)
    have hr2 : Room 2 _ := hr.mono (by decide)
    obtain ⟨fd, G, kp, bd⟩ := F.ok (w := w) (base := base) T
    refine ⟨_, pss_cons (ps_set (i := 2) scLineWord.nd rfl (Or.inl rfl) (pe_fld (pv 0) rfl))
      (pss_cons (ps_if (pt_not (pt_val (pe_callL (i := 1) G hr1 rfl (Or.inl rfl) kp bd .nil pass0 (pa_cons (pe_meth0 (pv 0) (clLine T) (meLine_now T) (ok_now T) hr1 (bLineNow T) .nil pass0) pa_nil))))
        (pss_one (ps_expr (pe_meth0 (pv 0) (clLine T) (meLine_refuse T) (ok_refuse T) hr (bLineRefuse T) .nil passX))) pss_nil)
      (pss_cons (ps_while (passes_of rfl) (pt_val (pe_call (ok_inRow T) hr2 rfl (gInRow T) (fInRow T).kp (bInRow T) .nil pass0 (pa_cons (pe_meth0 (pv 0) (clLine T) (meLine_now T) (ok_now T) hr1 (bLineNow T) .nil pass0) pa_nil)))
        (pss_one (ps_fldaug (pv 0) pe_int in_add)))
      (pss_cons (ps_set (i := 3) scLineWord.nd rfl (Or.inl rfl) (pe_slice sl_str (pe_fld (pv 0) rfl) (po_some (pv 2)) (po_some (pe_fld (pv 0) rfl))))
      (pss_cons (ps_if (pt_cmpR op_in_seq (pv 3) (pe_glob (v := .ref (He.ga K "WORDS")) rfl (gWORDS T) rfl) (by rfl))
        (pss_one (ps_expr (pe_meth0 (pv 0) (clLine T) (meLine_refuse T) (ok_refuse T) hr (bLineRefuse T) .nil passX))) pss_nil)
      (pss_one (ps_ret (pv 3))))))), ?_⟩
    obtain ⟨⟨a, dx, el, hp⟩, hs⟩ := id X
    refine ⟨_, rfl, p, _, dx, _, _, rfl, hp, clLine T, naLine_at T, lf_at _ _ _, ?_⟩
    refine ⟨rfl, _, rfl, p, dx, _, rfl, hp, no_m "now", p, l, n, r, rfl, X, r, rfl, _, rfl, ?_⟩
    cases h1 : oneB fits r with
    | false =>
      refine iteT ⟨_, rfl, p, dx, _, rfl, hp, no_m "refuse", p, l, n, r, rfl, X, ke r ?_⟩
      cases r with
      | nil => rfl
      | cons x r2 =>
        have h2 : fits x = false := h1
        simp [pWord, h2]
    | true =>
      refine iteF ?_
      have e0 : pWord fits r = if r.takeWhile inRow ∈ WD then .error (r.dropWhile inRow) else .ok (r.takeWhile inRow, r.dropWhile inRow) := by
        cases r with
        | nil => cases h1
        | cons x r2 =>
          have h2 : fits x = true := h1
          simp only [pWord, h2, if_true]
      refine ⟨fun m σ H1 => ∃ d r1, m = r1.length ∧ σ = [some (.ref p), some (.ref f), some (.int (a.length : Int)), none] ∧ (∃ dx1, H1 p = some (.ins (cLine K) dx1 (lf (tx l) n ((a ++ d).length : Int)))) ∧ l = (a ++ d) ++ r1 ∧ But p H H1 ∧ r.takeWhile inRow = d ++ r1.takeWhile inRow ∧ r.dropWhile inRow = r1.dropWhile inRow,
        ⟨_, [], r, rfl, rfl, ⟨dx, by rw [List.append_nil]; exact hp⟩, by rw [List.append_nil]; exact el, But.refl _ _, rfl, rfl⟩, ?_⟩
      rintro m σ H1 ⟨d, r1, rfl, rfl, ⟨dx1, hp1⟩, el1, B1, t1, d1⟩
      have X1 : LineAt K H1 p l n r1 := ⟨⟨_, _, el1, hp1⟩, X.small, X.tb.keep B1 hp fun _ z => by cases z⟩
      refine ⟨_, rfl, p, dx1, _, rfl, hp1, no_m "now", p, l, n, r1, rfl, X1, r1, rfl, _, rfl, ?_⟩
      cases h3 : oneB inRow r1 with
      | true =>
        refine iteT ?_
        obtain ⟨x, r2, rfl⟩ : ∃ x r2, r1 = x :: r2 := by
          cases r1 with
          | nil => cases h3
          | cons x r2 => exact ⟨x, r2, rfl⟩
        have hx : inRow x = true := h3
        have el2 : l = (a ++ (d ++ [x])) ++ r2 := by rw [el1]; simp
        refine ⟨fun σ H2 => σ = [some (.ref p), some (.ref f), some (.int (a.length : Int)), none] ∧ (∃ dx1, H2 p = some (.ins (cLine K) dx1 (lf (tx l) n ((a ++ (d ++ [x])).length : Int)))) ∧ But p H H2, ?_, ?_⟩
        · rintro σ' H' ⟨rfl, X2, B2⟩
          refine ⟨r2.length, by simp, d ++ [x], r2, rfl, rfl, X2, el2, B2, ?_, ?_⟩
          · rw [t1, List.takeWhile_cons, hx]
            simp
          · rw [d1, List.dropWhile_cons, hx]
            simp
        · refine ⟨_, rfl, p, _, dx1, _, _, rfl, hp1, clLine T, naLine_at T, lf_at _ _ _, _, _, rfl, rfl, dx1, _, hp1, by show 3 < 1000; decide, rfl, ⟨dx1, ?_⟩, B1.trans (But.upd _ _ _)⟩
          rw [upd_same, lf_put]
          congr 3
          simp [List.length_append]
          omega
      | false =>
        refine iteF ?_
        have e1 : r1.takeWhile inRow = [] ∧ r1.dropWhile inRow = r1 := by
          cases r1 with
          | nil => exact ⟨rfl, rfl⟩
          | cons x r2 =>
            have hb' : inRow x = false := h3
            simp [List.takeWhile_cons, List.dropWhile_cons, hb']
        rw [t1, d1, e1.1, e1.2, List.append_nil] at e0
        have ec : cutS (tx l) (some (a.length : Int)) (some ((a ++ d).length : Int)) = tx d := by
          have := cut_tx l a.length (a ++ d).length
          rw [this, el1]
          congr 1
          rw [List.take_left' rfl, List.drop_left' rfl]
        refine ⟨_, rfl, p, _, dx1, _, _, rfl, hp1, clLine T, naLine_text T, lf_text _ _ _, _, rfl, _, rfl, ?_⟩
        refine ⟨_, rfl, p, _, dx1, _, _, rfl, hp1, clLine T, naLine_at T, lf_at _ _ _, _, rfl, _, rfl, X1.len, ?_⟩
        show tSeq _ _ _ [some (V.ref p), some (V.ref f), some (V.int (a.length : Int)), some (V.str (cutS (tx l) (some (a.length : Int)) (some ((a ++ d).length : Int))))] H1
        rw [ec]
        refine ⟨_, rfl, _, _, rfl, .inr (words_at T H1), rfl, flat_strs _, _, rfl, ?_⟩
        rw [if_neg Bool.false_ne_true, in_strs]
        by_cases c : d ∈ WD
        · rw [decide_eq_true c]
          rw [if_pos c] at e0
          exact iteT ⟨_, rfl, p, dx1, _, rfl, hp1, no_m "refuse", p, l, n, r1, rfl, X1, ke r1 e0⟩
        · rw [decide_eq_false c]
          rw [if_neg c] at e0
          exact iteF ⟨_, rfl, k d r1 e0 H1 X1 B1⟩
end
end K29
end

section
set_option Elab.async false
set_option linter.all false
set_option maxRecDepth 100000
set_option maxHeartbeats 4000000
namespace K29
open PySem PySem.Spec PyProof.Rows L2 XT
theorem great_inRow {c : Nat} (h : great c = true) : inRow c = true := by simp [inRow, h]
theorem small_inRow {c : Nat} (h : small c = true) : inRow c = true := by simp [inRow, h]
theorem dropWhile_le (f : Nat → Bool) : ∀ r : List Nat, (r.dropWhile f).length ≤ r.length
  | [] => Nat.le_refl _
  | x :: r => by
    rw [List.dropWhile_cons]
    split
    · exact Nat.le_succ_of_le (dropWhile_le f r)
    · exact Nat.le_refl _
theorem pB_le (r : List Nat) : (pB r).length ≤ r.length := dropWhile_le _ r
theorem pWord_cons (fits : Nat → Bool) (c : Nat) (r : List Nat) : pWord fits (c :: r) = if fits c = true then (if (c :: r).takeWhile inRow ∈ WD then .error ((c :: r).dropWhile inRow) else .ok ((c :: r).takeWhile inRow, (c :: r).dropWhile inRow)) else .error (c :: r) := rfl
theorem pWord_less {fits : Nat → Bool} (hf : ∀ c, fits c = true → inRow c = true) {r r' w : List Nat} (h : pWord fits r = .ok (w, r')) : r'.length < r.length := by
  cases r with
  | nil => cases h
  | cons c r =>
    rw [pWord_cons] at h
    by_cases hc : fits c = true
    · rw [if_pos hc] at h
      split at h
      · cases h
      · have e := congrArg (fun z : Except (List Nat) (List Nat × List Nat) => match z with | .ok (_, b) => b | .error _ => []) h
        have e' : (c :: r).dropWhile inRow = r' := e
        rw [← e', List.dropWhile_cons, hf c hc]
        exact Nat.lt_succ_of_le (dropWhile_le _ _)
    · rw [if_neg hc] at h
      cases h
theorem pTake_le : ∀ {s r r' : List Nat}, pTake s r = .ok ((), r') → r'.length ≤ r.length
  | [], r, r', h => by
    have e := congrArg (fun z : Except (List Nat) (Unit × List Nat) => match z with | .ok (_, b) => b | .error _ => []) h
    have e' : r = r' := e
    rw [e']
    exact Nat.le_refl _
  | _ :: _, [], _, h => by cases h
  | c :: s, x :: r, r', h => by
    unfold pTake at h
    split at h
    · exact Nat.le_succ_of_le (pTake_le h)
    · cases h
def spHanded (K : PySem.W.Frag) : Sp := fun vs H Q E => ∃ (p : Addr) (l : List Nat) (n : Int) (r : List Nat), vs = [.ref p] ∧ LineAt K H p l n r ∧ Reads K H p l n (pHanded r) E fun ws H' => ∀ t, H' t = some (.tup (ws.map fun w => V.str (tx w))) → Q (.ref t) H'
section
variable {w : World} {K : PySem.W.Frag} {mg : Str → Option Value} {base : Heap}
theorem LineAt.get {H : Hp} {p : Addr} {l : List Nat} {n : Int} {r : List Nat} (X : LineAt K H p l n r) : ∃ (dx : Addr) (i : Int), H p = some (.ins (cLine K) dx (lf (tx l) n i)) := by
  obtain ⟨⟨a, dx, _, h⟩, _⟩ := X
  exact ⟨dx, _, h⟩
theorem LineAt.keep {H H' : Hp} {p : Addr} {l : List Nat} {n : Int} {r : List Nat} (X : LineAt K H p l n r) (h : H' p = H p) (t : Tb K H') : LineAt K H' p l n r := by
  obtain ⟨⟨a, dx, e, q⟩, s, _⟩ := X
  exact ⟨⟨a, dx, e, h.trans q⟩, s, t⟩
theorem ok_handed (T : Txt K mg) : FnOk Pg w K mg base (L2N.CX Pg w) 5 (aLineHanded K) (fdLineHanded K) PLineHanded (spHanded K) := by
  refine (fLineHanded T).okX scLineHanded (fun vs H Q E h => ?_) (fun cdv A outer s H vs Q E hr h => ?_)
  · obtain ⟨p, l, n, r, rfl, _⟩ := h
    rfl
  · obtain ⟨p, l, n, r, rfl, X, k, ke⟩ := h
    have hr1 : Room 1 _ := hr.mono (by decide)
    have hr2 : Room 2 _ := hr.mono (by decide)
    refine ⟨_, pss_cons (ps_expr (pe_meth (pv 0) (clLine T) (meLine_take T) (ok_take T) hr (bLineTake T) .nil passX (pa_cons pe_str pa_nil)))
      (pss_cons (ps_expr (pe_meth0 (pv 0) (clLine T) (meLine_blanks T) (ok_blanks T) hr2 (bLineBlanks T) .nil pass0))
      (pss_cons (ps_set (i := 1) scLineHanded.nd rfl (Or.inl rfl) (pe_lst pa_nil))
      (pss_cons (ps_while (passes_of rfl) (pt_cmpR op_ne (pe_meth0 (pv 0) (clLine T) (meLine_now T) (ok_now T) hr1 (bLineNow T) .nil pass0) pe_str (nomark _))
        (pss_cons (ps_if (pt_truth (pv 1) (by intro _; rfl))
          (pss_cons (ps_expr (pe_meth (pv 0) (clLine T) (meLine_take T) (ok_take T) hr (bLineTake T) .nil passX (pa_cons pe_str pa_nil)))
          (pss_one (ps_expr (pe_meth0 (pv 0) (clLine T) (meLine_blanks T) (ok_blanks T) hr2 (bLineBlanks T) .nil pass0)))) pss_nil)
        (pss_cons (ps_expr (pe_bm PySem.F.plainAttrs_list PySem.F.slot_list_append PySem.F.type_list_append mt_append (pv 1) (pa_cons (pe_meth (pv 0) (clLine T) (meLine_word T) (ok_word T) hr (bLineWord T) .nil passX (pa_cons (pe_glob (v := .ref (aIsGreat K)) rfl (gIsGreat T) rfl) pa_nil)) pa_nil)))
        (pss_one (ps_expr (pe_meth0 (pv 0) (clLine T) (meLine_blanks T) (ok_blanks T) hr2 (bLineBlanks T) .nil pass0))))))
      (pss_cons (ps_expr (pe_meth (pv 0) (clLine T) (meLine_take T) (ok_take T) hr (bLineTake T) .nil passX (pa_cons pe_str pa_nil)))
      (pss_one (ps_ret (pe_callTy call_tuple_of (by rfl) (nTuple T) (by decide +kernel) (pa_cons (pv 1) pa_nil)))))))), ?_⟩
    obtain ⟨dx, i0, hp⟩ := X.get
    refine ⟨_, rfl, p, dx, _, rfl, hp, no_m "take", p, l, n, r, [40], by rw [z_op]; rfl, X, fun _ r1 t1 H1 X1 B1 => ?_, fun e te => ke e (by unfold pHanded; rw [te])⟩
    obtain ⟨dx1, i1, hp1⟩ := X1.get
    refine ⟨_, rfl, p, dx1, _, rfl, hp1, no_m "blanks", p, l, n, r1, rfl, X1, fun H2 X2 B2 => ?_⟩
    refine ⟨by rw [sizeLine_eq]; decide, fun a ha => ?_⟩
    obtain ⟨dx2, i2, hp2⟩ := X2.get
    have B02 : But p H H2 := B1.trans B2
    have npa : p ≠ a := ne_of_none hp2 ha
    have la : ∀ b o, H b = some o → b ≠ p → b ≠ a := fun b o e hb => ne_of_none (B02 b o e hb) ha
    have lr1 := pTake_le t1
    have lb1 := pB_le r1
    have lsm := X.small
    have lrl : r.length ≤ l.length := by
      obtain ⟨⟨a0, _, e, _⟩, _⟩ := X
      rw [e, List.length_append]
      omega
    refine ⟨fun m σ H3 => ∃ acc r3, r3.length < m ∧ σ = [some (.ref p), some (.ref a)] ∧ LineAt K H3 p l n r3 ∧ H3 a = some (.lst (acc.map fun w => V.str (tx w))) ∧ (∀ b o, H b = some o → b ≠ p → H3 b = some o) ∧ acc.length + r3.length ≤ r.length ∧ pVals m acc r3 = pVals (r.length + 1) [] (pB r1),
      ⟨r.length + 1, [], pB r1, by omega, rfl, X2.keep (upd_ne npa) (X2.tb.same fun b o e => by rw [upd_ne (ne_of_none e (by assumption))]; exact e), upd_same, fun b o e hb => ?_, by simp; omega, rfl⟩, ?_⟩
    · rw [upd_ne (la b o e hb)]
      exact B02 b o e hb
    rintro m σ H3 ⟨acc, r3, hlt, rfl, X3, ha3, B3, hac, ev⟩
    obtain ⟨dx3, i3, hp3⟩ := X3.get
    obtain ⟨m', rfl⟩ : ∃ m', m = m' + 1 := ⟨m - 1, by omega⟩
    refine ⟨_, rfl, p, dx3, _, rfl, hp3, no_m "now", p, l, n, r3, rfl, X3, rfl, _, rfl, ?_⟩
    rw [z_cl, z_co]
    by_cases c : decide (V.str (tx (r3.take 1)) = V.str (tx [41])) = true
    · -- the bracket: the end
      obtain ⟨r4, e4⟩ := (one_eq _ _).mp c
      refine iteNS (of_decide_eq_true c) ?_
      have ev2 : pVals (r.length + 1) [] (pB r1) = .ok (acc, r3) := by
        rw [← ev, e4]
        rfl
      have eh : pHanded r = .ok (acc, r4) := by
        unfold pHanded
        rw [t1]
        show (match pVals (r.length + 1) [] (pB r1) with | .error e => Except.error e | .ok (vs, r2) => match pTake [41] r2 with | .error e => .error e | .ok (_, r3) => .ok (vs, r3)) = _
        rw [ev2, e4]
        rfl
      refine ⟨_, rfl, p, dx3, _, rfl, hp3, no_m "take", p, l, n, r3, [41], rfl, X3, fun _ r5 t5 H5 X5 B5 => ?_, fun e te => ?_⟩
      · have e5 : r5 = r4 := by
          rw [e4] at t5
          have e := congrArg (fun z : Except (List Nat) (Unit × List Nat) => match z with | .ok (_, b) => b | .error _ => []) t5
          exact (show r4 = r5 from e).symm
        subst e5
        have ha5 := B5 a _ ha3 (Ne.symm npa)
        refine ⟨_, rfl, a, _, rfl, .inl ⟨SqL.of ha5, fun t ht => ?_⟩⟩
        obtain ⟨dx5, i5, hp5⟩ := X5.get
        refine k acc _ eh _ (X5.keep (upd_ne (ne_of_none hp5 ht)) (X5.tb.same fun b o e => by rw [upd_ne (ne_of_none e ht)]; exact e)) (fun b o e hb => ?_) t upd_same
        rw [upd_ne (ne_of_none (B5 b o (B3 b o e hb) hb) ht)]
        exact B5 b o (B3 b o e hb) hb
      · rw [e4] at te
        cases te
    · have c' : decide (V.str (tx (r3.take 1)) = V.str (tx [41])) = false := by simpa using c
      refine iteNF c' ?_
      have hhd : ¬ r3.head? = some 41 := by
        cases r3 with
        | nil => simp
        | cons x r4 =>
          intro e
          have e' : x = 41 := by simpa using e
          exact c ((one_eq _ _).mpr ⟨r4, by rw [e']⟩)
      have unf : pVals (m' + 1) acc r3 = (match (if acc = [] then Except.ok ((), r3) else (match pTake [44] r3 with
          | .ok (_, r1) => .ok ((), pB r1)
          | .error e => .error e) : Except (List Nat) (Unit × List Nat)) with
        | .error e => .error e
        | .ok (_, r2) => match pWord great r2 with
          | .error e => .error e
          | .ok (w, r3) => pVals m' (acc ++ [w]) (pB r3)) := by
        rw [pVals, if_neg hhd]
        all_goals rfl
      -- what an error on the way is
      have bad : ∀ e, pVals (m' + 1) acc r3 = .error e → Bad K l n E e := fun e he => ke e (by
        unfold pHanded
        rw [t1]
        show (match pVals (r.length + 1) [] (pB r1) with | .error e => Except.error e | .ok (vs, r2) => match pTake [41] r2 with | .error e => .error e | .ok (_, r3) => .ok (vs, r3)) = _
        rw [← ev, he])
      refine ⟨fun σ H4 => ∃ acc' r4, r4.length < m' ∧ σ = [some (.ref p), some (.ref a)] ∧ LineAt K H4 p l n r4 ∧ H4 a = some (.lst (acc'.map fun w => V.str (tx w))) ∧ (∀ b o, H b = some o → b ≠ p → H4 b = some o) ∧ acc'.length + r4.length ≤ r.length ∧ pVals m' acc' r4 = pVals (m' + 1) acc r3, ?_, ?_⟩
      · rintro σ' H' ⟨acc', r4, h1, rfl, h2, h3, h4, h5, h6⟩
        exact ⟨m', by omega, acc', r4, h1, rfl, h2, h3, h4, h5, h6.trans ev⟩
      refine ⟨_, rfl, _, .inl ⟨_, SqL.of ha3, rfl⟩, ?_⟩
      by_cases ea : acc = []
      · have hk : (!(acc.map fun w => V.str (tx w)).isEmpty) = false := by rw [ea]; rfl
        rw [hk]
        refine iteF ?_
        have X4 := X3
        have ha4 := ha3
        have B4 := B3
        obtain ⟨dx4, i4, hp4⟩ := X4.get
        have u4 : pVals (m' + 1) acc r3 = (match pWord great r3 with | .error e => .error e | .ok (w, r5) => pVals m' (acc ++ [w]) (pB r5)) := by
          rw [unf, if_pos ea]
        refine ⟨_, rfl, .inl ⟨rfl, _, SqL.of ha4⟩, _, rfl, p, dx4, _, rfl, hp4, no_m "word", p, l, n, r3, _, great, rfl, .great, X4, fun ww r5 t5 H5 X5 B5 => ?_, fun e te => bad e (by rw [u4, te])⟩
        have ha5 := B5 a _ ha4 (Ne.symm npa)
        have lw := pWord_less (fun _ => great_inRow) t5
        have lb := pB_le r5
        refine ⟨a, _, _, rfl, rfl, ha5, by rw [List.length_map, sizeLine_eq]; omega, ?_⟩
        have X6 : LineAt K (upd H5 a (.lst ((acc.map fun w => V.str (tx w)) ++ [V.str (tx ww)]))) p l n r5 := X5.keep (upd_ne npa) (X5.tb.keep (But.upd _ _ _) (by assumption) fun _ z => by cases z)
        obtain ⟨dx6, i6, hp6⟩ := X6.get
        refine ⟨_, rfl, p, dx6, _, rfl, hp6, no_m "blanks", p, l, n, r5, rfl, X6, fun H7 X7 B7 => ?_⟩
        refine ⟨acc ++ [ww], pB r5, by omega, rfl, X7, ?_, fun b o e hb => B7 b o ?_ hb, ?_, ?_⟩
        · rw [B7 a _ upd_same (Ne.symm npa)]
          simp
        · rw [upd_ne (la b o e hb)]
          exact B5 b o (B4 b o e hb) hb
        · rw [List.length_append]
          simp only [List.length_cons, List.length_nil]
          omega
        · rw [u4, t5]
      · have hk : (!(acc.map fun w => V.str (tx w)).isEmpty) = true := by
          cases acc with
          | nil => exact absurd rfl ea
          | cons _ _ => rfl
        rw [hk]
        refine iteT ?_
        refine ⟨_, rfl, p, dx3, _, rfl, hp3, no_m "take", p, l, n, r3, [44], rfl, X3, fun _ r35 t35 H35 X35 B35 => ?_, fun e te => bad e (by rw [unf, if_neg ea, te])⟩
        obtain ⟨dx35, i35, hp35⟩ := X35.get
        refine ⟨_, rfl, p, dx35, _, rfl, hp35, no_m "blanks", p, l, n, r35, rfl, X35, fun H4 X4 B44 => ?_⟩
        have ha4 := B44 a _ (B35 a _ ha3 (Ne.symm npa)) (Ne.symm npa)
        have B4 : ∀ b o, H b = some o → b ≠ p → H4 b = some o := fun b o e hb => B44 b o (B35 b o (B3 b o e hb) hb) hb
        obtain ⟨dx4, i4, hp4⟩ := X4.get
        have l35 := pTake_le t35
        have lb35 := pB_le r35
        have u4 : pVals (m' + 1) acc r3 = (match pWord great (pB r35) with | .error e => .error e | .ok (w, r5) => pVals m' (acc ++ [w]) (pB r5)) := by
          rw [unf, if_neg ea, t35]
        refine ⟨_, rfl, .inl ⟨rfl, _, SqL.of ha4⟩, _, rfl, p, dx4, _, rfl, hp4, no_m "word", p, l, n, (pB r35), _, great, rfl, .great, X4, fun ww r5 t5 H5 X5 B5 => ?_, fun e te => bad e (by rw [u4, te])⟩
        have ha5 := B5 a _ ha4 (Ne.symm npa)
        have lw := pWord_less (fun _ => great_inRow) t5
        have lb := pB_le r5
        refine ⟨a, _, _, rfl, rfl, ha5, by rw [List.length_map, sizeLine_eq]; omega, ?_⟩
        have X6 : LineAt K (upd H5 a (.lst ((acc.map fun w => V.str (tx w)) ++ [V.str (tx ww)]))) p l n r5 := X5.keep (upd_ne npa) (X5.tb.keep (But.upd _ _ _) (by assumption) fun _ z => by cases z)
        obtain ⟨dx6, i6, hp6⟩ := X6.get
        refine ⟨_, rfl, p, dx6, _, rfl, hp6, no_m "blanks", p, l, n, r5, rfl, X6, fun H7 X7 B7 => ?_⟩
        refine ⟨acc ++ [ww], pB r5, by omega, rfl, X7, ?_, fun b o e hb => B7 b o ?_ hb, ?_, ?_⟩
        · rw [B7 a _ upd_same (Ne.symm npa)]
          simp
        · rw [upd_ne (la b o e hb)]
          exact B5 b o (B4 b o e hb) hb
        · rw [List.length_append]
          simp only [List.length_cons, List.length_nil]
          omega
        · rw [u4, t5]
end
end K29
end

section
set_option Elab.async false
set_option linter.all false
set_option maxRecDepth 100000
set_option maxHeartbeats 4000000
namespace K29
open PySem PySem.Spec PyProof.Rows L2 XT
theorem lf_made (z : Str) (n : Int) : putF "at" (.int 0) (putF "number" (.int n) (putF "text" (.str z) [])) = lf z n 0 := by
  have h1 : ¬ (("text" : Str) = "number") := by decide +kernel
  have h2 : ¬ (("text" : Str) = "at") := by decide +kernel
  have h3 : ¬ (("number" : Str) = "at") := by decide +kernel
  have e1 : putF "number" (.int n) (putF "text" (.str z) []) = [(("text" : Str), V.str z), (("number" : Str), V.int n)] := by
    show (if ("text" : Str) = "number" then _ else (("text" : Str), V.str z) :: putF "number" (V.int n) []) = _
    rw [if_neg h1]
    rfl
  rw [e1]
  show (if ("text" : Str) = "at" then _ else (("text" : Str), V.str z) :: (if ("number" : Str) = "at" then _ else (("number" : Str), V.int n) :: putF "at" (V.int 0) [])) = _
  rw [if_neg h2, if_neg h3]
  rfl
def spLineInit (K : PySem.W.Frag) : Sp := fun vs H Q _ => ∃ (p dx : Addr) (l : List Nat) (n : Int), vs = [.ref p, .str (tx l), .int n] ∧ l.length ≤ 1000000 ∧ H p = some (.ins (cLine K) dx []) ∧ Tb K H ∧ ∀ H', LineAt K H' p l n l → But p H H' → Q .non H'
/-- a call's row in the heap -/
def ansV : Nat ⊕ List Nat → V
  | .inl n => .int (n : Int)
  | .inr w => .str (tx w)
def partL (m : Bool) : List Nat := if m then wMake else wAct
structure CallV (H : Hp) (v : V) (x : CRow) : Prop where
  at_ : ∃ c t : Addr, v = .ref c ∧ H c = some (.tup [.str (tx (partL x.isMk)), .int (x.frame : Int), .str (tx x.name), .ref t]) ∧ H t = some (.tup (x.vals.map fun w => V.str (tx w)))
structure RowV (H : Hp) (v : V) (x : CRow) : Prop where
  at_ : ∃ (a : Addr) (c : V), v = .ref a ∧ H a = some (.tup [c, ansV x.ans]) ∧ CallV H c x
def spReadLine (K : PySem.W.Frag) : Sp := fun vs H Q E => ∃ (p : Addr) (l : List Nat) (n : Int) (r : List Nat), vs = [.ref p] ∧ LineAt K H p l n r ∧
  (pLine r = .ok none → ∀ H', But p H H' → Q .non H') ∧ (∀ x, pLine r = .ok (some x) → ∀ v H', But p H H' → RowV H' v x → Q v H') ∧ ∀ e, pLine r = .error e → Bad K l n E e
section
variable {w : World} {K : PySem.W.Frag} {mg : Str → Option Value} {base : Heap}
theorem ok_lineInit (T : Txt K mg) : FnOk Pg w K mg base CX0 1 (aLineInit K) (fdLineInit K) PLineInit (spLineInit K) := by
  refine (fLineInit T).ok0 scLineInit (fun vs H Q E h => ?_) (fun cdv A outer s H vs Q E hr h => ?_)
  · obtain ⟨p, dx, l, n, rfl, _⟩ := h
    rfl
  · obtain ⟨p, dx, l, n, rfl, hl, hp, tb, k⟩ := h
    refine ⟨_, pss_cons (ps_fld (pv 0) (pv 1) rfl) (pss_cons (ps_fld (pv 0) (pv 2) rfl) (pss_one (ps_fld (pv 0) pe_int rfl))), ?_⟩
    refine ⟨_, rfl, _, rfl, p, _, dx, _, rfl, hp, clLine T, naLine_text T, by show 0 < 1000; decide, ?_⟩
    refine ⟨_, rfl, _, rfl, p, _, dx, _, rfl, upd_same, clLine T, naLine_number T, by show 1 < 1000; decide, ?_⟩
    refine ⟨_, rfl, p, _, dx, _, rfl, upd_same, clLine T, naLine_at T, ?_, ?_⟩
    · have := length_putF "number" (V.int n) (putF "text" (V.str (tx l)) [])
      have := length_putF "text" (V.str (tx l)) []
      simp only [List.length_nil] at this
      omega
    · refine k _ ⟨⟨[], dx, rfl, ?_⟩, hl, tb.keep (p := p) (fun b o e hb => by rw [upd_ne hb, upd_ne hb, upd_ne hb]; exact e) hp fun _ z => by cases z⟩ fun b o e hb => ?_
      · rw [upd_same, lf_made]
        rfl
      · rw [upd_ne hb, upd_ne hb, upd_ne hb]
        exact e
theorem wMake_ne : ¬ (wMake = wAct) := by decide
theorem z_part (m : Bool) : decide (V.str (tx (partL m)) = V.str (tx [109, 97, 107, 101])) = m := by
  rw [dec_tx]
  cases m <;> rfl
theorem But.at {p t : Addr} {H H' : Hp} {o u : HO} (B : But p H H') (ht : H t = some o) (hp : H p = some u) (d : o ≠ u) : H' t = some o := B t o ht (fun e => d (by rw [e, hp] at ht; exact (Option.some.inj ht).symm))
theorem tIf_c {m : Bool} {a b v : V} {σ : L2.St} {H : Hp} {Q : VK} (h : Q v H) (ha : m = true → v = a) (hb : m = false → v = b) : if m = true then tC a σ H Q else tC b σ H Q := by
  cases m with
  | true =>
    refine iteT ?_
    rw [ha rfl] at h
    exact h
  | false =>
    refine iteF ?_
    rw [hb rfl] at h
    exact h
theorem ok_readLine (T : Txt K mg) : FnOk Pg w K mg base (L2N.CX Pg w) 6 (aReadLine K) (fdReadLine K) PReadLine (spReadLine K) := by
  refine (fReadLine T).okX scReadLine (fun vs H Q E h => ?_) (fun cdv A outer s H vs Q E hr h => ?_)
  · obtain ⟨p, l, n, r, rfl, _⟩ := h
    rfl
  · obtain ⟨p, l, n, r, rfl, X, kn, k, ke⟩ := h
    have hr1 : Room 1 _ := hr.mono (by decide)
    have hr2 : Room 2 _ := hr.mono (by decide)
    have hr3 : Room 3 _ := hr.mono (by decide)
    have hr4 : Room 4 _ := hr.mono (by decide)
    refine ⟨_, pss_cons (ps_expr (pe_meth0 (pv 0) (clLine T) (meLine_blanks T) (ok_blanks T) hr2 (bLineBlanks T) .nil pass0))
      (pss_cons (ps_if (pt_cmpR op_eq (pe_meth0 (pv 0) (clLine T) (meLine_now T) (ok_now T) hr1 (bLineNow T) .nil pass0) pe_str (nomark _)) (pss_one (ps_ret pe_non)) pss_nil)
      (pss_cons (ps_set (i := 1) scReadLine.nd rfl (Or.inl rfl) (pe_ifExp (pt_cmpR op_eq (pe_meth0 (pv 0) (clLine T) (meLine_now T) (ok_now T) hr1 (bLineNow T) .nil pass0) pe_str (nomark _)) pe_str pe_str))
      (pss_cons (ps_expr (pe_meth (pv 0) (clLine T) (meLine_take T) (ok_take T) hr4 (bLineTake T) .nil passX (pa_cons (pv 1) pa_nil)))
      (pss_cons (ps_expr (pe_meth0 (pv 0) (clLine T) (meLine_gap T) (ok_gap T) hr4 (bLineGap T) .nil passX))
      (pss_cons (ps_set (i := 2) scReadLine.nd rfl (Or.inl rfl) (pe_meth0 (pv 0) (clLine T) (meLine_figure T) (ok_figure T) hr4 (bLineFigure T) .nil passX))
      (pss_cons (ps_expr (pe_meth0 (pv 0) (clLine T) (meLine_gap T) (ok_gap T) hr4 (bLineGap T) .nil passX))
      (pss_cons (ps_set (i := 3) scReadLine.nd rfl (Or.inl rfl) (pe_meth (pv 0) (clLine T) (meLine_word T) (ok_word T) hr4 (bLineWord T) .nil passX (pa_cons (pe_ifExp (pt_cmpR op_eq (pv 1) pe_str (nomark _)) (pe_glob (v := .ref (aIsGreat K)) rfl (gIsGreat T) rfl) (pe_glob (v := .ref (aIsSmall K)) rfl (gIsSmall T) rfl)) pa_nil)))
      (pss_cons (ps_expr (pe_meth0 (pv 0) (clLine T) (meLine_blanks T) (ok_blanks T) hr2 (bLineBlanks T) .nil pass0))
      (pss_cons (ps_set (i := 4) scReadLine.nd rfl (Or.inl rfl) (pe_meth0 (pv 0) (clLine T) (meLine_handed T) (ok_handed T) hr (bLineHanded T) .nil passX))
      (pss_cons (ps_expr (pe_meth0 (pv 0) (clLine T) (meLine_blanks T) (ok_blanks T) hr2 (bLineBlanks T) .nil pass0))
      (pss_cons (ps_expr (pe_meth (pv 0) (clLine T) (meLine_take T) (ok_take T) hr4 (bLineTake T) .nil passX (pa_cons pe_str pa_nil)))
      (pss_cons (ps_expr (pe_meth0 (pv 0) (clLine T) (meLine_blanks T) (ok_blanks T) hr2 (bLineBlanks T) .nil pass0))
      (pss_cons (ps_set (i := 5) scReadLine.nd rfl (Or.inl rfl) (pe_ifExp (pt_cmpR op_eq (pv 1) pe_str (nomark _)) (pe_meth0 (pv 0) (clLine T) (meLine_figure T) (ok_figure T) hr4 (bLineFigure T) .nil passX)
        (pe_meth (pv 0) (clLine T) (meLine_word T) (ok_word T) hr4 (bLineWord T) .nil passX (pa_cons (pe_glob (v := .ref (aIsGreat K)) rfl (gIsGreat T) rfl) pa_nil))))
      (pss_cons (ps_expr (pe_meth0 (pv 0) (clLine T) (meLine_blanks T) (ok_blanks T) hr2 (bLineBlanks T) .nil pass0))
      (pss_cons (ps_if (pt_cmpR op_ne (pe_meth0 (pv 0) (clLine T) (meLine_now T) (ok_now T) hr1 (bLineNow T) .nil pass0) pe_str (nomark _))
        (pss_one (ps_expr (pe_meth0 (pv 0) (clLine T) (meLine_refuse T) (ok_refuse T) hr3 (bLineRefuse T) .nil passX))) pss_nil)
      (pss_one (ps_ret (pe_tup (pa_cons (pe_tup (pa_cons (pv 1) (pa_cons (pv 2) (pa_cons (pv 3) (pa_cons (pv 4) pa_nil))))) (pa_cons (pv 5) pa_nil)))))))))))))))))))), ?_⟩
    obtain ⟨dx0, i0, hp0⟩ := X.get
    refine ⟨_, rfl, p, dx0, _, rfl, hp0, no_m "blanks", p, l, n, r, rfl, X, fun H1 X1 B1 => ?_⟩
    obtain ⟨dx1, i1, hp1⟩ := X1.get
    refine ⟨_, rfl, p, dx1, _, rfl, hp1, no_m "now", p, l, n, _, rfl, X1, rfl, _, rfl, ?_⟩
    rw [z_e, z_m, z_make, z_act, z_to]
    -- an empty line
    cases hb : pB r with
    | nil =>
      refine iteT (kn ?_ H1 B1)
      unfold pLine
      rw [hb]
    | cons x r1 =>
    have ne : decide (V.str (tx ((x :: r1).take 1)) = V.str (tx [])) = false := by
      rw [dec_tx]
      simp
    rw [ne]
    refine iteF ?_
    rw [hb] at X1
    obtain ⟨m, hm⟩ : ∃ m, m = decide (x = 109) := ⟨_, rfl⟩
    have em : decide (V.str (tx ((x :: r1).take 1)) = V.str (tx [109])) = m := by
      rw [dec_tx, hm]
      simp
    have bad : ∀ e, pRowM m (x :: r1) = .error e → Bad K l n E e := fun e he => ke e (by
      unfold pLine
      rw [hb]
      have e2 : pRow (x :: r1) = .error e := by
        unfold pRow
        rw [← he, hm]
        congr 1
      show (match pRow (x :: r1) with | .error e => Except.error e | .ok (x, _) => .ok (some x)) = _
      rw [e2])
    have good : ∀ y, pRowM m (x :: r1) = .ok (y, []) → pLine r = .ok (some y) := fun y he => by
      unfold pLine
      rw [hb]
      have e2 : pRow (x :: r1) = .ok (y, []) := by
        unfold pRow
        rw [← he, hm]
        congr 1
      show (match pRow (x :: r1) with | .error e => Except.error e | .ok (x, _) => .ok (some x)) = _
      rw [e2]
    refine ⟨_, rfl, p, dx1, _, rfl, hp1, no_m "now", p, l, n, _, rfl, X1, rfl, _, rfl, ?_⟩
    rw [em]
    refine tIf_c (v := V.str (tx (partL m))) ?_ (by rintro rfl; rfl) (by rintro rfl; rfl)
    -- the word
    refine ⟨_, rfl, p, dx1, _, rfl, hp1, no_m "take", _, rfl, p, l, n, _, partL m, rfl, X1, fun u1 r2 t2 H2 X2 B2 => ?_, fun e te => bad e (seqP_err te)⟩
    have e2 := seqP_ok (k := fun _ r1 => seqP (pGap r1) fun _ r2 => seqP (pFig r2) fun n r3 => seqP (pGap r3) fun _ r4 => seqP (pWord (if m then great else small) r4) fun x r5 => seqP (pHanded (pB r5)) fun vs r6 => seqP (pTake [45, 62] (pB r6)) fun _ r7 => seqP (pAns m (pB r7)) fun a r8 => pEnd (⟨m, n, x, vs, a⟩ : CRow) (pB r8)) t2
    obtain ⟨dx2, i2, hp2⟩ := X2.get
    refine ⟨_, rfl, p, dx2, _, rfl, hp2, no_m "gap", p, l, n, r2, rfl, X2, fun u2 r3 t3 H3 X3 B3 => ?_, fun e te => bad e (e2.trans (seqP_err te))⟩
    have e3 := e2.trans (seqP_ok t3)
    obtain ⟨dx3, i3, hp3⟩ := X3.get
    refine ⟨_, rfl, p, dx3, _, rfl, hp3, no_m "figure", p, l, n, r3, rfl, X3, fun fr r4 t4 H4 X4 B4 => ?_, fun e te => bad e (e3.trans (seqP_err te))⟩
    have e4 := e3.trans (seqP_ok t4)
    obtain ⟨dx4, i4, hp4⟩ := X4.get
    refine ⟨_, rfl, p, dx4, _, rfl, hp4, no_m "gap", p, l, n, r4, rfl, X4, fun u4 r5 t5 H5 X5 B5 => ?_, fun e te => bad e (e4.trans (seqP_err te))⟩
    have e5 := e4.trans (seqP_ok t5)
    obtain ⟨dx5, i5, hp5⟩ := X5.get
    refine ⟨_, rfl, p, dx5, _, rfl, hp5, no_m "word", _, rfl, rfl, _, rfl, ?_⟩
    rw [z_part]
    refine tIf_c (v := V.ref (if m then aIsGreat K else aIsSmall K)) ?_ (by rintro rfl; rfl) (by rintro rfl; rfl)
    refine ⟨p, l, n, r5, _, (if m then great else small), rfl, (by cases m; exact .small; exact .great), X5, fun nm r6 t6w H6 X6 B6 => ?_, fun e te => bad e (e5.trans (seqP_err te))⟩
    have e6 := e5.trans (seqP_ok t6w)
    obtain ⟨dx6, i6, hp6⟩ := X6.get
    refine ⟨_, rfl, p, dx6, _, rfl, hp6, no_m "blanks", p, l, n, r6, rfl, X6, fun H6a X6a B6a => ?_⟩
    obtain ⟨dx6a, i6a, hp6a⟩ := X6a.get
    refine ⟨_, rfl, p, dx6a, _, rfl, hp6a, no_m "handed", p, l, n, _, rfl, X6a, fun vs6 r7 t7 H6b X6b B6b => ?_, fun e te => bad e (e6.trans (seqP_err te))⟩
    intro t6 ht6
    have e7 := e6.trans (seqP_ok t7)
    obtain ⟨dx6b, i6b, hp6b⟩ := X6b.get
    refine ⟨_, rfl, p, dx6b, _, rfl, hp6b, no_m "blanks", p, l, n, r7, rfl, X6b, fun H7 X7 B7 => ?_⟩
    obtain ⟨dx7, i7, hp7⟩ := X7.get
    refine ⟨_, rfl, p, dx7, _, rfl, hp7, no_m "take", p, l, n, _, [45, 62], rfl, X7, fun u7 r7b t7b H7b0 X7b0 B7b0 => ?_, fun e te => bad e (e7.trans (seqP_err te))⟩
    have e8 := e7.trans (seqP_ok t7b)
    obtain ⟨dx7b0, i7b0, hp7b0⟩ := X7b0.get
    refine ⟨_, rfl, p, dx7b0, _, rfl, hp7b0, no_m "blanks", p, l, n, r7b, rfl, X7b0, fun H7b X7b B7b1 => ?_⟩
    have B7b := B7b0.trans B7b1
    obtain ⟨dx7b, i7b, hp7b⟩ := X7b.get
    refine ⟨_, rfl, rfl, _, rfl, ?_⟩
    rw [z_part]
    cases hm2 : m with
    | true =>
      subst hm2
      refine iteT ⟨_, rfl, p, dx7b, _, rfl, hp7b, no_m "figure", p, l, n, _, rfl, X7b, fun an r8 t8 H8 X8 B8 => ?_, fun e te => bad e (e8.trans (seqP_err (by unfold pAns; exact seqP_err te)))⟩
      have ta8 : pAns true (pB r7b) = .ok (.inl an, r8) := by
        unfold pAns
        exact seqP_ok t8
      obtain ⟨dx8, i8, hp8⟩ := X8.get
      refine ⟨_, rfl, p, dx8, _, rfl, hp8, no_m "blanks", p, l, n, r8, rfl, X8, fun H9 X9 B9 => ?_⟩
      obtain ⟨dx9, i9, hp9⟩ := X9.get
      refine ⟨_, rfl, p, dx9, _, rfl, hp9, no_m "now", p, l, n, _, rfl, X9, rfl, _, rfl, ?_⟩
      have e9 := e8.trans (seqP_ok ta8)
      cases h8 : pB r8 with
      | cons y r9 =>
        have ne9 : decide (V.str (tx ((y :: r9).take 1)) = V.str (tx [])) = false := by
          rw [dec_tx]
          simp
        rw [h8] at X9 e9
        refine iteNF ne9 ?_
        exact ⟨_, rfl, p, dx9, _, rfl, hp9, no_m "refuse", p, l, n, _, rfl, X9, bad _ (e9.trans rfl)⟩
      | nil =>
        rw [h8] at X9 e9
        refine iteNS (by rfl) ?_
        have ht9 := B9.at (B8.at (B7b.at (B7.at ht6 hp6b (by intro z; cases z)) hp7 (by intro z; cases z)) hp7b (by intro z; cases z)) hp8 (by intro z; cases z)
        refine ⟨_, rfl, _, rfl, _, rfl, _, rfl, szL (n := 4) rfl (by decide), fun c hc => ⟨_, rfl, szL (n := 2) rfl (by decide), fun q hq => ?_⟩⟩
        have B09 : But p H H9 := B1.trans (B2.trans (B3.trans (B4.trans (B5.trans (B6.trans (B6a.trans (B6b.trans (B7.trans (B7b.trans (B8.trans B9))))))))))
        have htc : t6 ≠ c := ne_of_none ht9 hc
        refine k _ (good _ e9) _ _ (fun b o e hb => ?_) ⟨q, .ref c, rfl, upd_same, c, t6, rfl, ?_, ?_⟩
        · have e10 := B09 b o e hb
          have e11 : (upd H9 c (.tup [V.str (tx (partL true)), V.int (fr : Int), V.str (tx nm), V.ref t6])) b = some o := by rw [upd_ne (ne_of_none e10 hc)]; exact e10
          rw [upd_ne (ne_of_none e11 hq)]
          exact e11
        · rw [upd_ne (fun z => by rw [← z, upd_same] at hq; cases hq), upd_same]
        · rw [upd_ne (ne_of_none (by rw [upd_ne htc]; exact ht9) hq), upd_ne htc]
          exact ht9
    | false =>
      subst hm2
      refine iteF ⟨_, rfl, p, dx7b, _, rfl, hp7b, no_m "word", p, l, n, _, _, great, rfl, .great, X7b, fun an r8 t8 H8 X8 B8 => ?_, fun e te => bad e (e8.trans (seqP_err (by unfold pAns; exact seqP_err te)))⟩
      have ta8 : pAns false (pB r7b) = .ok (.inr an, r8) := by
        unfold pAns
        exact seqP_ok t8
      obtain ⟨dx8, i8, hp8⟩ := X8.get
      refine ⟨_, rfl, p, dx8, _, rfl, hp8, no_m "blanks", p, l, n, r8, rfl, X8, fun H9 X9 B9 => ?_⟩
      obtain ⟨dx9, i9, hp9⟩ := X9.get
      refine ⟨_, rfl, p, dx9, _, rfl, hp9, no_m "now", p, l, n, _, rfl, X9, rfl, _, rfl, ?_⟩
      have e9 := e8.trans (seqP_ok ta8)
      cases h8 : pB r8 with
      | cons y r9 =>
        have ne9 : decide (V.str (tx ((y :: r9).take 1)) = V.str (tx [])) = false := by
          rw [dec_tx]
          simp
        rw [h8] at X9 e9
        refine iteNF ne9 ?_
        exact ⟨_, rfl, p, dx9, _, rfl, hp9, no_m "refuse", p, l, n, _, rfl, X9, bad _ (e9.trans rfl)⟩
      | nil =>
        rw [h8] at X9 e9
        refine iteNS (by rfl) ?_
        have ht9 := B9.at (B8.at (B7b.at (B7.at ht6 hp6b (by intro z; cases z)) hp7 (by intro z; cases z)) hp7b (by intro z; cases z)) hp8 (by intro z; cases z)
        refine ⟨_, rfl, _, rfl, _, rfl, _, rfl, szL (n := 4) rfl (by decide), fun c hc => ⟨_, rfl, szL (n := 2) rfl (by decide), fun q hq => ?_⟩⟩
        have B09 : But p H H9 := B1.trans (B2.trans (B3.trans (B4.trans (B5.trans (B6.trans (B6a.trans (B6b.trans (B7.trans (B7b.trans (B8.trans B9))))))))))
        have htc : t6 ≠ c := ne_of_none ht9 hc
        refine k _ (good _ e9) _ _ (fun b o e hb => ?_) ⟨q, .ref c, rfl, upd_same, c, t6, rfl, ?_, ?_⟩
        · have e10 := B09 b o e hb
          have e11 : (upd H9 c (.tup [V.str (tx (partL false)), V.int (fr : Int), V.str (tx nm), V.ref t6])) b = some o := by rw [upd_ne (ne_of_none e10 hc)]; exact e10
          rw [upd_ne (ne_of_none e11 hq)]
          exact e11
        · rw [upd_ne (fun z => by rw [← z, upd_same] at hq; cases hq), upd_same]
        · rw [upd_ne (ne_of_none (by rw [upd_ne htc]; exact ht9) hq), upd_ne htc]
          exact ht9
end
end K29
end

section
set_option Elab.async false
set_option linter.all false
set_option maxRecDepth 100000
set_option maxHeartbeats 4000000
namespace K29
open PySem PySem.Spec PyProof.Rows L2 XT
theorem linesL_le : ∀ (l : List Nat), ∀ x ∈ linesL l, x.length ≤ l.length
  | [], x, h => by
    have e : x = [] := by simpa [linesL] using h
    rw [e]
    exact Nat.le_refl _
  | c :: l, x, h => by
    unfold linesL at h
    have ih := linesL_le l
    split at h
    · rcases List.mem_cons.mp h with e | e
      · rw [e]; exact Nat.zero_le _
      · exact Nat.le_succ_of_le (ih x e)
    · split at h
      · rename_i y ys hy
        rcases List.mem_cons.mp h with e | e
        · rw [e]
          exact Nat.succ_le_succ (ih y (by rw [hy]; simp))
        · exact Nat.le_succ_of_le (ih x (by rw [hy]; exact List.mem_cons_of_mem _ e))
      · rename_i hy
        exact absurd hy (linesL_ne l)
theorem linesL_len : ∀ (l : List Nat), (linesL l).length ≤ l.length + 1
  | [] => Nat.le_refl _
  | c :: l => by
    have ih := linesL_len l
    unfold linesL
    split
    · simp only [List.length_cons]; omega
    · split
      · rename_i y ys hy
        rw [hy] at ih
        simp only [List.length_cons] at ih ⊢
        omega
      · simp
/-- tuples that stood stand -/
def Tups (H H' : Hp) : Prop := ∀ t xs, H t = some (.tup xs) → H' t = some (.tup xs)
theorem Tups.trans {H H1 H2 : Hp} (a : Tups H H1) (b : Tups H1 H2) : Tups H H2 := fun t xs e => b t xs (a t xs e)
theorem Tups.new {H : Hp} {p : Addr} {o : HO} (h : H p = none) : Tups H (upd H p o) := fun t xs e => by rw [upd_ne (ne_of_none e h)]; exact e
theorem CallV.mono {H H' : Hp} {v : V} {x : CRow} (m : Tups H H') (c : CallV H v x) : CallV H' v x := by
  obtain ⟨a, t, e, h1, h2⟩ := c
  exact ⟨a, t, e, m _ _ h1, m _ _ h2⟩
/-- a row of told_lines -/
structure RowT (H : Hp) (v : V) (y : Nat × CRow) : Prop where
  at_ : ∃ (t : Addr) (c : V), v = .ref t ∧ H t = some (.tup [.int (y.1 : Int), c, ansV y.2.ans]) ∧ CallV H c y.2
theorem RowT.mono {H H' : Hp} {v : V} {y : Nat × CRow} (m : Tups H H') (c : RowT H v y) : RowT H' v y := by
  obtain ⟨t, c, e, h1, h2⟩ := c
  exact ⟨t, c, e, m _ _ h1, h2.mono m⟩
def spTold (K : PySem.W.Frag) : Sp := fun vs H Q E => ∃ (l : List Nat), vs = [.str (tx l)] ∧ l.length ≤ 1000000 ∧ Tb K H ∧
  (∀ ys, toldL 1 (linesL l) = .ok ys → ∀ a H' ws, Same H H' → H' a = some (.lst ws) → H a = none → Paired (RowT H') ws ys → Q (.ref a) H') ∧ ∀ n x e, toldL 1 (linesL l) = .error (n, x, e) → Bad K x (n : Int) E e
section
variable {w : World} {K : PySem.W.Frag} {mg : Str → Option Value} {base : Heap}
theorem ok_told (T : Txt K mg) : FnOk Pg w K mg base (L2N.CX Pg w) 7 (aToldLines K) (fdToldLines K) PToldLines (spTold K) := by
  refine (fToldLines T).okX scToldLines (fun vs H Q E h => ?_) (fun cdv A outer s H vs Q E hr h => ?_)
  · obtain ⟨l, rfl, _⟩ := h
    rfl
  · obtain ⟨l, rfl, hl, tb, k, ke⟩ := h
    refine ⟨_, pss_cons (ps_set (i := 1) scToldLines.nd rfl (Or.inl rfl) (pe_lst pa_nil))
      (pss_cons (ps_for (passes_of rfl) rfl (pi_enum (by rfl) (nEnumerate T) (pa_cons (pe_split (pv 0) pe_str) pa_nil)) (pg_tup rfl (pgs_cons (pg_name (i := 2) scToldLines.nd rfl (Or.inl rfl)) (pgs_cons (pg_name (i := 3) scToldLines.nd rfl (Or.inl rfl)) pgs_nil)))
        (pss_cons (ps_set (i := 4) scToldLines.nd rfl (Or.inl rfl) (pe_call (ok_readLine T) hr rfl (gReadLine T) (fReadLine T).kp (bReadLine T) .nil passX (pa_cons (pe_make (mkLine T) (ok_lineInit T) (hr.mono (by decide)) rfl (gLine T) (bLineInit T) .nil pass0 (pa_cons (pv 3) (pa_cons (pe_op op_add (pv 2) pe_int) pa_nil))) pa_nil)))
        (pss_one (ps_if (pt_cmpR op_notN (pv 4) pe_non (nomark _))
          (pss_one (ps_expr (pe_bm PySem.F.plainAttrs_list PySem.F.slot_list_append PySem.F.type_list_append mt_append (pv 1) (pa_cons (pe_tup (pa_cons (pe_op op_add (pv 2) pe_int) (pa_cons (pe_ix ix_tup (pv 4) pe_int (fun _ _ => rfl)) (pa_cons (pe_ix ix_tup (pv 4) pe_int (fun _ _ => rfl)) pa_nil)))) pa_nil)))) pss_nil))))
      (pss_one (ps_ret (pv 1)))), ?_⟩
    refine ⟨szL (n := 0) rfl (by decide), fun a ha => ?_⟩
    rw [z_nl]
    refine ⟨_, rfl, ⟨_, rfl⟩, _, _, rfl, rfl, rfl, by rw [tx_len, sizeLine_eq]; omega, fun b hb => ?_⟩
    rw [split_lines]
    have hba : b ≠ a := fun z => by rw [z, upd_same] at hb; cases hb
    have hb0 : H b = none := by rw [upd_ne hba] at hb; exact hb
    generalize hLs : linesL l = Ls at *
    have hmap : (Ls.map tx).map V.str = Ls.map fun x => V.str (tx x) := by rw [List.map_map]; rfl
    rw [hmap]
    have nl : Ls.length ≤ l.length + 1 := by rw [← hLs]; exact linesL_len l
    refine ⟨b, _, rfl, SqL.of upd_same, for_enum (K := K) (a := b) (xs := Ls.map fun x => V.str (tx x)) (fun i σ H1 => ∃ (acc : List (Nat × CRow)) (ws : List V) (v2 v3 v4 : Option V), σ = [some (.str (tx l)), some (.ref a), v2, v3, v4] ∧ Same H H1 ∧
      H1 b = some (.lst (Ls.map fun x => V.str (tx x))) ∧ H1 a = some (.lst ws) ∧ ws.length ≤ i ∧ Paired (RowT H1) ws acc ∧ (∀ ys, toldL (i + 1) (Ls.drop i) = .ok ys → toldL 1 Ls = .ok (acc ++ ys)) ∧ ∀ e, toldL (i + 1) (Ls.drop i) = .error e → toldL 1 Ls = .error e)
      ⟨[], [], none, none, none, rfl, fun c o e => by rw [upd_ne (ne_of_none (by rw [upd_ne (ne_of_none e ha)]; exact e) hb), upd_ne (ne_of_none e ha)]; exact e, upd_same, by rw [upd_ne (Ne.symm hba), upd_same], Nat.le_refl _, .nil, fun ys h => h, fun e h => h⟩
      (fun i σ H1 _ ⟨_, _, _, _, _, _, _, h1, _⟩ => SqL.of h1) ?_ ?_⟩
    · rintro i v t σ H1 hi ⟨acc, ws, v2, v3, v4, rfl, S1, hb1, ha1, hwl, R1, o1, e1⟩ ht
      obtain ⟨x, hx, rfl⟩ : ∃ x, Ls[i]? = some x ∧ v = V.str (tx x) := by
        rw [List.getElem?_map] at hi
        cases e : Ls[i]? with
        | none => rw [e] at hi; cases hi
        | some x => rw [e] at hi; exact ⟨x, rfl, (Option.some.inj hi).symm⟩
      have hil : i < Ls.length := (List.getElem?_eq_some_iff.mp hx).1
      have hdr : Ls.drop i = x :: Ls.drop (i + 1) := by
        obtain ⟨h1, h2⟩ := List.getElem?_eq_some_iff.mp hx
        rw [List.drop_eq_getElem_cons h1, h2]
      have hxl : x.length ≤ 1000000 := by
        have := linesL_le l x (by rw [hLs]; exact List.mem_of_getElem? hx)
        omega
      have m0 : Tups H1 (upd H1 t (.tup [.int (i : Nat), .str (tx x)])) := Tups.new ht
      refine ⟨t, _, rfl, SqT.of upd_same, rfl, _, _, rfl, _, _, rfl, rfl, ?_⟩
      refine ⟨_, rfl, _, rfl, _, _, rfl, rfl, fun p dx hp hdx ne => ?_⟩
      -- the heap ahead of Line's __init__
      have hpt : t ≠ p := fun z => by rw [← z, upd_same] at hp; cases hp
      have hdt : t ≠ dx := fun z => by rw [← z, upd_same] at hdx; cases hdx
      have keep1 : ∀ c o, (upd H1 t (.tup [.int (i : Nat), .str (tx x)])) c = some o → (upd (upd (upd H1 t (.tup [.int (i : Nat), .str (tx x)])) dx (.own p)) p (.ins (He.ga K "Line") dx [])) c = some o := fun c o e => by
        rw [upd_ne (ne_of_none e hp), upd_ne (ne_of_none e hdx)]
        exact e
      have h01 : ∀ c o, H1 c = some o → (upd H1 t (.tup [.int (i : Nat), .str (tx x)])) c = some o := fun c o e => by rw [upd_ne (ne_of_none e ht)]; exact e
      refine ⟨p, dx, x, (i : Int) + 1, rfl, hxl, upd_same, (tb.same fun c o e => keep1 c o (h01 c o (S1 c o e))), fun H2 X2 B2 => ⟨rfl, ?_⟩⟩
      have np : ∀ c o, (upd H1 t (.tup [.int (i : Nat), .str (tx x)])) c = some o → c ≠ p := fun c o e => ne_of_none e hp
      have keep2 : ∀ c o, (upd H1 t (.tup [.int (i : Nat), .str (tx x)])) c = some o → H2 c = some o := fun c o e => B2 c o (keep1 c o e) (np c o e)
      have bad : ∀ e, pLine x = .error e → Bad K x ((i : Int) + 1) E e := fun e he => by
        have h1 : toldL (i + 1) (Ls.drop i) = .error (i + 1, x, e) := by rw [hdr, toldL, he]
        have h2 := ke _ _ _ (e1 _ h1)
        have h3 : ((i + 1 : Nat) : Int) = (i : Int) + 1 := by omega
        rw [← h3]
        exact h2
      refine ⟨p, x, (i : Int) + 1, x, rfl, X2, fun en H3 B3 => ?_, fun y ey v H3 B3 RV => ?_, bad⟩
      · -- no call on the line
        have keep3 : ∀ c o, H1 c = some o → H3 c = some o := fun c o e => B3 c o (keep2 c o (h01 c o e)) (np c o (h01 c o e))
        refine ⟨_, rfl, rfl, _, rfl, ?_⟩
        refine iteNS rfl ?_
        refine ⟨acc, ws, _, _, _, rfl, fun c o e => keep3 c o (S1 c o e), keep3 _ _ hb1, keep3 _ _ ha1, by omega, R1.mono fun v y r => r.mono fun t xs e => keep3 t _ e, fun ys h => o1 ys ?_, fun e h => e1 e ?_⟩
        · rw [hdr, toldL, en]; exact h
        · rw [hdr, toldL, en]; exact h
      · have keep3 : ∀ c o, H1 c = some o → H3 c = some o := fun c o e => B3 c o (keep2 c o (h01 c o e)) (np c o (h01 c o e))
        obtain ⟨ra, c, rfl, hra, CV⟩ := RV
        refine ⟨_, rfl, rfl, _, rfl, ?_⟩
        refine iteNF rfl ?_
        have ha3 := keep3 _ _ ha1
        refine ⟨_, rfl, .inl ⟨rfl, _, SqL.of ha3⟩, _, rfl, _, _, rfl, rfl, ?_⟩
        refine ⟨_, rfl, ra, _, 0, c, rfl, rfl, SqT.of hra, rfl, _, rfl, ra, _, 1, _, rfl, rfl, SqT.of hra, rfl, ?_⟩
        refine ⟨szL (n := 3) rfl (by decide), fun q hq => ?_⟩
        have hqa : a ≠ q := ne_of_none ha3 hq
        have ha4 : (upd H3 q (.tup [.int ((i : Int) + 1), c, ansV y.ans])) a = some (.lst ws) := by rw [upd_ne hqa]; exact ha3
        refine ⟨a, _, _, rfl, rfl, ha4, by rw [sizeLine_eq]; omega, ?_⟩
        have na : ∀ c' o, H1 c' = some o → c' ≠ a → (upd (upd H3 q (.tup [.int ((i : Int) + 1), c, ansV y.ans])) a (.lst (ws ++ [.ref q]))) c' = some o := fun c' o e hne => by
          rw [upd_ne hne, upd_ne (ne_of_none (keep3 _ _ e) hq)]
          exact keep3 _ _ e
        have m4 : Tups H3 (upd (upd H3 q (.tup [.int ((i : Int) + 1), c, ansV y.ans])) a (.lst (ws ++ [.ref q]))) := fun t' xs e => by
          rw [upd_ne (ne_of e ha3 (by intro z; cases z)), upd_ne (ne_of_none e hq)]
          exact e
        have hba' : b ≠ a := hba
        refine ⟨acc ++ [(i + 1, y)], ws ++ [.ref q], _, _, _, rfl, fun c' o e => na c' o (S1 c' o e) (ne_of_none e ha), na _ _ hb1 hba', upd_same, by rw [List.length_append]; simp only [List.length_cons, List.length_nil]; omega, ?_, fun ys h => ?_, fun e h => ?_⟩
        · refine Paired.snoc (R1.mono fun v y r => r.mono ((show Tups H1 H3 from fun t xs e => keep3 t _ e).trans m4)) ⟨q, c, rfl, ?_, CV.mono m4⟩
          have h3 : ((i + 1 : Nat) : Int) = (i : Int) + 1 := by omega
          show _ = some (HO.tup [V.int (((i + 1 : Nat)) : Int), c, ansV y.ans])
          rw [h3, upd_ne (Ne.symm hqa), upd_same]
        · have h1 : toldL (i + 1) (Ls.drop i) = .ok ((i + 1, y) :: ys) := by rw [hdr, toldL, ey, h]
          rw [o1 _ h1]
          simp
        · refine e1 e ?_
          rw [hdr, toldL, ey, h]
    · rintro σ H1 ⟨acc, ws, v2, v3, v4, rfl, S1, hb1, ha1, hwl, R1, o1, e1⟩
      have h1 := o1 [] (by rw [List.length_map, List.drop_length]; rfl)
      rw [List.append_nil] at h1
      exact ⟨_, rfl, k acc h1 a H1 ws S1 ha1 ha R1⟩
end
end K29
end

section
set_option Elab.async false
set_option linter.all false
set_option maxRecDepth 100000
set_option maxHeartbeats 4000000
namespace K29
open PySem PySem.Spec PyProof.Rows L2 XT
/-- what read_transcript hands back -/
structure TransV (H : Hp) (v : V) (rows : List CRow) : Prop where
  at_ : ∃ (t a b : Addr) (cs : List V), v = .ref t ∧ H t = some (.tup [.ref a, .ref b]) ∧ H a = some (.tup cs) ∧ H b = some (.tup (rows.map fun y => ansV y.ans)) ∧ Paired (CallV H) cs rows
def spTrans (K : PySem.W.Frag) : Sp := fun vs H Q E => ∃ (l : List Nat), vs = [.str (tx l)] ∧ l.length ≤ 1000000 ∧ Tb K H ∧
  (∀ ys, toldL 1 (linesL l) = .ok ys → ∀ v H', Same H H' → TransV H' v (ys.map (·.2)) → Q v H') ∧ ∀ n x e, toldL 1 (linesL l) = .error (n, x, e) → Bad K x (n : Int) E e
theorem Paired.pick {α β : Type} {F : α → β → Prop} : ∀ {l₁ : List α} {l₂ : List β} {i : Nat} {a : α}, Paired F l₁ l₂ → l₁[i]? = some a → ∃ b, l₂[i]? = some b ∧ F a b
  | _, _, _, _, .nil, e => by simp at e
  | _, _, 0, _, .cons r _, e => by simp at e; subst e; exact ⟨_, rfl, r⟩
  | _, _, i + 1, a, .cons _ t, e => by
    obtain ⟨b, h1, h2⟩ := Paired.pick (i := i) (a := a) t (by simpa using e)
    exact ⟨b, by simpa using h1, h2⟩
theorem take_snoc {α : Type} {l : List α} {i : Nat} {a : α} (h : l[i]? = some a) : l.take (i + 1) = l.take i ++ [a] := by
  obtain ⟨h1, h2⟩ := List.getElem?_eq_some_iff.mp h
  rw [List.take_succ, h]
  rfl
section
variable {w : World} {K : PySem.W.Frag} {mg : Str → Option Value} {base : Heap}
theorem ok_trans (T : Txt K mg) : FnOk Pg w K mg base (L2N.CX Pg w) 8 (aReadTranscript K) (fdReadTranscript K) PReadTranscript (spTrans K) := by
  refine (fReadTranscript T).okX scReadTranscript (fun vs H Q E h => ?_) (fun cdv A outer s H vs Q E hr h => ?_)
  · obtain ⟨l, rfl, _⟩ := h
    rfl
  · obtain ⟨l, rfl, hl, tb, k, ke⟩ := h
    refine ⟨_, pss_cons (ps_set (i := 1) scReadTranscript.nd rfl (Or.inl rfl) (pe_call (ok_told T) hr rfl (gToldLines T) (fToldLines T).kp (bToldLines T) .nil passX (pa_cons (pv 0) pa_nil)))
      (pss_one (ps_ret (pe_tup (pa_cons
        (pe_callTy call_tuple_of (by rfl) (nTuple T) (by decide +kernel) (pa_cons (pe_lc (te := tOp (rIxT K) (tVar 2) (tC (.int 1))) (own := [("row", 2)]) (g := gName 2) (by rfl) scReadTranscript.nd (pi_list (pv 1)) (blkOk_by (N := NReadTranscript) (sc := defScope sReadTranscript) (by decide +kernel)) (fun _ _ _ _ _ => pg_name (i := 2) scReadTranscript.nd rfl (Or.inl rfl)) (fun _ _ _ _ _ => pts_nil) (fun _ _ _ _ _ => pe_ix ix_tup (pv 2) pe_int (fun _ _ => rfl))) pa_nil)) (pa_cons
        (pe_callTy call_tuple_of (by rfl) (nTuple T) (by decide +kernel) (pa_cons (pe_lc (te := tOp (rIxT K) (tVar 2) (tC (.int 2))) (own := [("row", 2)]) (g := gName 2) (by rfl) scReadTranscript.nd (pi_list (pv 1)) (blkOk_by (N := NReadTranscript) (sc := defScope sReadTranscript) (by decide +kernel)) (fun _ _ _ _ _ => pg_name (i := 2) scReadTranscript.nd rfl (Or.inl rfl)) (fun _ _ _ _ _ => pts_nil) (fun _ _ _ _ _ => pe_ix ix_tup (pv 2) pe_int (fun _ _ => rfl))) pa_nil)) pa_nil))))), ?_⟩
    refine ⟨_, rfl, l, rfl, hl, tb, fun ys ey a H1 ws S1 ha1 han R1 => ?_, ke⟩
    have k' := k ys ey
    have wl : ws.length ≤ 1000001 := by
      have h1 := R1.length
      have h2 : ys.length ≤ (linesL l).length := by
        have g : ∀ (n : Nat) (xs : List (List Nat)) (ys : List (Nat × CRow)), toldL n xs = .ok ys → ys.length ≤ xs.length := by
          intro n xs
          induction xs generalizing n with
          | nil =>
            intro ys h
            have e : ([] : List (Nat × CRow)) = ys := by simpa [toldL] using h
            rw [← e]
            exact Nat.le_refl _
          | cons x xs ih =>
            intro ys h
            rw [toldL] at h
            split at h
            · cases h
            · exact Nat.le_succ_of_le (ih _ _ h)
            · split at h
              · cases h
              · rename_i zs hz
                have e := congrArg (fun z : Except (Nat × List Nat × List Nat) (List (Nat × CRow)) => match z with | .ok b => b | .error _ => []) h
                have e' : _ :: zs = ys := e
                rw [← e']
                exact Nat.succ_le_succ (ih _ _ hz)
        exact g _ _ _ ey
      have h3 := linesL_len l
      omega
    -- the calls
    refine ⟨_, rfl, a, rfl, ⟨_, SqL.of ha1⟩, fun D hD => ?_⟩
    have hDa : a ≠ D := ne_of_none ha1 hD
    refine lc_list (K := K) (a := a) (xs := ws) (fun i H2 => ∃ cs, H2 D = some (.lst cs) ∧ (∀ b o, H1 b = some o → H2 b = some o) ∧ cs.length = i ∧ Paired (CallV H1) cs ((ys.take i).map (·.2)))
      ⟨[], upd_same, fun b o e => by rw [upd_ne (ne_of_none e hD)]; exact e, rfl, .nil⟩ (fun i H2 _ ⟨_, _, h2, _⟩ => SqL.of (h2 _ _ ha1)) ?_ ?_
    · rintro i x H2 hx ⟨cs, hd, kp, lc, PC⟩
      obtain ⟨y, hy, t, c, rfl, ht, CV⟩ := Paired.pick R1 hx
      have hil := (List.getElem?_eq_some_iff.mp hx).1
      refine ⟨rfl, ?_⟩
      refine yes_t ?_
      refine ⟨_, rfl, t, _, 1, c, rfl, rfl, SqT.of (kp _ _ ht), rfl, cs, hd, by rw [sizeLine_eq]; omega, cs ++ [c], upd_same, fun b o e => ?_, by rw [List.length_append, lc]; rfl, ?_⟩
      · rw [upd_ne (ne_of_none e hD)]
        exact kp b o e
      · rw [take_snoc hy, List.map_append]
        exact PC.snoc CV
    rintro H2 ⟨cs, hd2, kp2, lc2, PC2⟩
    have ely : ws.length = ys.length := R1.length
    rw [ely, List.take_length] at PC2
    refine ⟨D, _, rfl, .inl ⟨SqL.of hd2, fun tc htc => ?_⟩⟩
    -- the answers
    have ha3 : (upd H2 tc (.tup cs)) a = some (.lst ws) := by rw [upd_ne (ne_of_none (kp2 _ _ ha1) htc)]; exact kp2 _ _ ha1
    refine ⟨_, rfl, a, rfl, ⟨_, SqL.of ha3⟩, fun D2 hD2 => ?_⟩
    have kp3 : ∀ b o, H1 b = some o → (upd H2 tc (.tup cs)) b = some o := fun b o e => by rw [upd_ne (ne_of_none (kp2 _ _ e) htc)]; exact kp2 _ _ e
    refine lc_list (K := K) (a := a) (xs := ws) (fun i H4 => ∃ as, H4 D2 = some (.lst as) ∧ (∀ b o, (upd H2 tc (.tup cs)) b = some o → H4 b = some o) ∧ as.length = i ∧ as = (ys.take i).map (fun y => ansV y.2.ans))
      ⟨[], upd_same, fun b o e => by rw [upd_ne (ne_of_none e hD2)]; exact e, rfl, rfl⟩ (fun i H4 _ ⟨_, _, h2, _⟩ => SqL.of (h2 _ _ ha3)) ?_ ?_
    · rintro i x H4 hx ⟨as, hd, kp, lc, PC⟩
      obtain ⟨y, hy, t, c, rfl, ht, CV⟩ := Paired.pick R1 hx
      have hil := (List.getElem?_eq_some_iff.mp hx).1
      refine ⟨rfl, ?_⟩
      refine yes_t ?_
      refine ⟨_, rfl, t, _, 2, _, rfl, rfl, SqT.of (kp _ _ (kp3 _ _ ht)), rfl, as, hd, by rw [sizeLine_eq]; omega, as ++ [ansV y.2.ans], upd_same, fun b o e => ?_, by rw [List.length_append, lc]; rfl, ?_⟩
      · rw [upd_ne (ne_of_none e hD2)]
        exact kp b o e
      · rw [take_snoc hy, List.map_append, PC]
        rfl
    rintro H4 ⟨as, hd4, kp4, lc4, ea⟩
    rw [ely, List.take_length] at ea
    refine ⟨D2, _, rfl, .inl ⟨SqL.of hd4, fun ta hta => ?_⟩⟩
    refine ⟨szL (n := 2) rfl (by decide), fun t ht => ?_⟩
    have htc4 : H4 tc = some (.tup cs) := kp4 _ _ upd_same
    have g : ∀ b o, H1 b = some o → (upd (upd H4 ta (.tup as)) t (.tup [.ref tc, .ref ta])) b = some o := fun b o e => by
      have e4 := kp4 _ _ (kp3 _ _ e)
      have e5 : (upd H4 ta (.tup as)) b = some o := by rw [upd_ne (ne_of_none e4 hta)]; exact e4
      rw [upd_ne (ne_of_none e5 ht)]
      exact e5
    have hta5 : (upd H4 ta (.tup as)) ta = some (.tup as) := upd_same
    have htc5 : (upd H4 ta (.tup as)) tc = some (.tup cs) := by rw [upd_ne (ne_of_none htc4 hta)]; exact htc4
    refine k' _ _ (fun b o e => g b o (S1 b o e)) ⟨t, tc, ta, cs, rfl, upd_same, ?_, ?_, PC2.mono fun v y r => r.mono fun t' xs e => g _ _ e⟩
    · rw [upd_ne (ne_of_none htc5 ht)]; exact htc5
    · rw [upd_ne (ne_of_none hta5 ht), hta5, ea, List.map_map]
      rfl
end
end K29
end

section
set_option Elab.async false
set_option linter.all false
set_option maxRecDepth 100000
set_option maxHeartbeats 4000000
/-! The law's draws. -/
namespace K29
open PySem PySem.Spec PyProof.Rows L2 XT
/-- a source of draws at a -/
structure SrcAt (H : Hp) (a b : Addr) : Prop where
  at_ : ∃ (xs : List Int) (i r s : Int), H a = some (.lst [.ref b, .int i, .int r, .int s]) ∧ H b = some (.lst (xs.map V.int)) ∧ b ≠ a ∧ 0 ≤ i ∧ 0 ≤ r
def spDraw : Sp := fun vs H Q _ => ∃ (a b : Addr) (m : Int), vs = [.ref a, .int m] ∧ SrcAt H a b ∧ 0 < m ∧ m < 2 ^ 100 ∧ ∀ n H', 0 ≤ n → n < m → SrcAt H' a b → But a H H' → Q (.int n) H'
theorem mod_b (x : Int) {m : Int} (h : 0 < m) : 0 ≤ x % m ∧ x % m < m := ⟨Int.emod_nonneg _ (by omega), Int.emod_lt_of_pos _ h⟩
theorem wideD {x m : Int} (h : 0 < m) (h2 : m < 2 ^ 100) : CDivW x m := by
  refine wide_div h (b := 100) ?_ (by decide) (by decide)
  have : (2 : Int) ^ 100 = 1267650600228229401496703205376 := by decide
  have : (2 : Nat) ^ 100 = 1267650600228229401496703205376 := by decide
  omega
section
variable {w : World} {K : PySem.W.Frag} {mg : Str → Option Value} {base : Heap}
theorem ok_draw (T : Txt K mg) : FnOk Pg w K mg base CX0 1 (aLawDraw K) (fdLawDraw K) PLawDraw spDraw := by
  refine (fLawDraw T).ok0 scLawDraw (fun vs H Q E h => ?_) (fun cdv A outer s H vs Q E hr h => ?_)
  · obtain ⟨a, b, m, rfl, _⟩ := h
    rfl
  · obtain ⟨a, b, m, rfl, ⟨xs, i, r, sd, ha, hb, hba, hi, hr0⟩, hm, hm2, k⟩ := h
    refine ⟨_, pss_cons (ps_if (pt_cmpR op_gt (pe_ix ix_list (pv 0) pe_int (fun _ _ => rfl)) pe_int (nomark _))
        (pss_cons (ps_set (i := 4) scLawDraw.nd rfl (Or.inl rfl) (pe_op op_mod (pe_callTy call_int1 (by rfl) (nInt T) (by decide +kernel) (pa_cons (pe_ix ix_list (pv 0) pe_int (fun _ _ => rfl)) pa_nil)) (pv 1)))
        (pss_cons (ps_asg (pe_op op_fdivW (pe_callTy call_int1 (by rfl) (nInt T) (by decide +kernel) (pa_cons (pe_ix ix_list (pv 0) pe_int (fun _ _ => rfl)) pa_nil)) (pv 1)) (pg_sub (pv 0) pe_int set_list))
        (pss_one (ps_ret (pv 4))))) pss_nil)
      (pss_cons (ps_set (i := 2) scLawDraw.nd rfl (Or.inl rfl) pe_int)
      (pss_cons (ps_if (pt_cmpR op_lt (pe_ix ix_list (pv 0) pe_int (fun _ _ => rfl)) (pe_callB call_len_seq (by rfl) (nLen T) PySem.boot_len (pa_cons (pe_ix ix_list (pv 0) pe_int (fun _ _ => rfl)) pa_nil)) (nomark _))
        (pss_cons (ps_set (i := 2) scLawDraw.nd rfl (Or.inl rfl) (pe_callTy call_int1 (by rfl) (nInt T) (by decide +kernel) (pa_cons (pe_ix ix_list (pe_ix ix_list (pv 0) pe_int (fun _ _ => rfl)) (pe_ix ix_list (pv 0) pe_int (fun _ _ => rfl)) (fun _ _ => rfl)) pa_nil)))
        (pss_cons (ps_asg (pe_op op_add (pe_ix ix_list (pv 0) pe_int (fun _ _ => rfl)) pe_int) (pg_sub (pv 0) pe_int set_list))
        (pss_one (ps_if (pt_cmpR op_ge (pv 2) (pe_op op_pow pe_int pe_int) (nomark _))
          (pss_cons (ps_asg (pe_op op_fdivW (pv 2) (pv 1)) (pg_sub (pv 0) pe_int set_list))
          (pss_one (ps_ret (pe_op op_mod (pe_callTy call_int1 (by rfl) (nInt T) (by decide +kernel) (pa_cons (pv 2) pa_nil)) (pv 1))))) pss_nil)))) pss_nil)
      (pss_cons (ps_set (i := 3) scLawDraw.nd rfl (Or.inl rfl) (pe_op op_mod (pe_callTy call_int1 (by rfl) (nInt T) (by decide +kernel) (pa_cons (pe_op op_add (pe_op op_mul (pe_op op_add (pe_ix ix_list (pv 0) pe_int (fun _ _ => rfl)) (pv 2)) pe_int) pe_int) pa_nil)) pe_int))
      (pss_cons (ps_set (i := 3) scLawDraw.nd rfl (Or.inl rfl) (pe_op op_mod (pe_callTy call_int1 (by rfl) (nInt T) (by decide +kernel) (pa_cons (pe_op op_add (pe_op op_add (pe_op op_mul (pv 3) (pv 3)) (pe_op op_mul pe_int (pv 3))) pe_int) pa_nil)) pe_int))
      (pss_cons (ps_asg (pe_op op_mod (pe_callTy call_int1 (by rfl) (nInt T) (by decide +kernel) (pa_cons (pe_op op_add (pe_op op_mul (pv 3) (pv 3)) pe_int) pa_nil)) pe_int) (pg_sub (pv 0) pe_int set_list))
      (pss_one (ps_ret (pe_op op_mod (pe_callTy call_int1 (by rfl) (nInt T) (by decide +kernel) (pa_cons (pe_op op_fdiv (pe_ix ix_list (pv 0) pe_int (fun _ _ => rfl)) pe_int) pa_nil)) (pv 1))))))))), ?_⟩
    have ix : ∀ {H' : Hp} {i' r' s' : Int}, H' a = some (.lst [.ref b, .int i', .int r', .int s']) → SqL K H' a [.ref b, .int i', .int r', .int s'] := fun h => SqL.of h
    refine ⟨_, rfl, a, _, 2, _, rfl, rfl, ix ha, rfl, _, _, rfl, rfl, _, rfl, ?_⟩
    refine ite2 (fun c => ?_) (fun c => ?_)
    · have c' : 0 < r := of_decide_eq_true c
      refine ⟨_, rfl, a, _, 2, _, rfl, rfl, ix ha, rfl, .inl ⟨_, rfl, _, rfl, _, _, rfl, rfl, hm, ?_⟩⟩
      refine ⟨_, rfl, a, _, 2, _, rfl, rfl, ix ha, rfl, .inl ⟨_, rfl, _, rfl, _, _, rfl, rfl, wideD hm hm2, ?_⟩⟩
      refine ⟨_, rfl, a, _, _, 2, rfl, rfl, ha, rfl, _, rfl, ?_⟩
      obtain ⟨h1, h2⟩ := mod_b r hm
      refine k _ _ h1 h2 ⟨xs, i, r / m, sd, upd_same, by rw [upd_ne hba]; exact hb, hba, hi, Int.ediv_nonneg hr0 (by omega)⟩ (But.upd _ _ _)
    · refine ⟨_, rfl, a, _, 1, _, rfl, rfl, ix ha, rfl, _, rfl, a, _, 0, _, rfl, rfl, ix ha, rfl, b, _, rfl, .inl (SqL.of hb), _, _, rfl, rfl, _, rfl, ?_⟩
      refine ite2 (fun c2 => ?_) (fun c2 => ?_)
      · have c2' : i < (xs.length : Int) := by have := of_decide_eq_true c2; rwa [List.length_map] at this
        have hil : i.toNat < xs.length := by omega
        refine ⟨_, rfl, a, _, 0, _, rfl, rfl, ix ha, rfl, _, rfl, a, _, 1, _, rfl, rfl, ix ha, rfl, b, _, i, .int xs[i.toNat], rfl, rfl, SqL.of hb, ?_, .inl ⟨_, rfl, ?_⟩⟩
        · have e := atI_nat (xs := xs.map V.int) (j := i.toNat) (v := .int xs[i.toNat]) (by rw [List.getElem?_map, List.getElem?_eq_getElem hil]; rfl)
          rwa [Int.toNat_of_nonneg hi] at e
        refine ⟨_, rfl, a, _, 1, _, rfl, rfl, ix ha, rfl, _, _, rfl, rfl, _, rfl, a, _, _, 1, rfl, rfl, ha, rfl, _, rfl, ?_⟩
        generalize xs[i.toNat] = cc
        refine ⟨_, _, rfl, rfl, ⟨by decide, by decide, by decide⟩, _, _, rfl, rfl, _, rfl, ?_⟩
        refine ite2 (fun c3 => ?_) (fun c3 => ?_)
        · have c3' : (10 ^ 18 : Int) ≤ cc := of_decide_eq_true c3
          refine ⟨_, rfl, _, rfl, _, _, rfl, rfl, wideD hm hm2, ?_⟩
          refine ⟨_, rfl, a, _, _, 2, rfl, rfl, upd_same, rfl, _, rfl, ?_⟩
          refine .inl ⟨_, rfl, _, rfl, _, _, rfl, rfl, hm, ?_⟩
          obtain ⟨h1, h2⟩ := mod_b cc hm
          exact k _ _ h1 h2 ⟨xs, i + 1, cc / m, sd, upd_same, by rw [upd_ne hba, upd_ne hba]; exact hb, hba, by omega, Int.ediv_nonneg (by omega) (by omega)⟩ ((But.upd _ _ _).trans (But.upd _ _ _))
        · refine ⟨_, rfl, a, _, 3, _, rfl, rfl, ix upd_same, rfl, _, rfl, _, _, rfl, rfl, _, _, rfl, rfl, .inr ⟨by decide, by decide⟩, _, _, rfl, rfl, .inl ⟨_, rfl, _, _, rfl, rfl, (by decide : (0:Int) < 2147483647), ?_⟩⟩
          refine ⟨_, rfl, _, rfl, _, _, rfl, rfl, .inl ⟨by omega, by omega⟩, _, rfl, _, _, rfl, rfl, .inl ⟨by decide, by decide⟩, _, _, rfl, rfl, _, _, rfl, rfl, .inl ⟨_, rfl, _, _, rfl, rfl, (by decide : (0:Int) < 2147483629), ?_⟩⟩
          refine ⟨_, rfl, _, rfl, _, _, rfl, rfl, .inl ⟨by omega, by omega⟩, _, _, rfl, rfl, .inl ⟨_, rfl, _, _, rfl, rfl, (by decide : (0:Int) < 2147483587), ?_⟩⟩
          refine ⟨_, rfl, a, _, _, 3, rfl, rfl, upd_same, rfl, _, rfl, ?_⟩
          refine ⟨a, _, 3, _, rfl, rfl, ix upd_same, rfl, _, _, rfl, rfl, ⟨by decide, by decide⟩, .inl ⟨_, rfl, _, rfl, _, _, rfl, rfl, hm, ?_⟩⟩
          exact k _ _ (mod_b _ hm).1 (mod_b _ hm).2 ⟨xs, i + 1, r, _, upd_same, by rw [upd_ne hba, upd_ne hba]; exact hb, hba, by omega, hr0⟩ ((But.upd _ _ _).trans (But.upd _ _ _))
      · refine ⟨_, rfl, a, _, 3, _, rfl, rfl, ix ha, rfl, _, rfl, _, _, rfl, rfl, _, _, rfl, rfl, .inr ⟨by decide, by decide⟩, _, _, rfl, rfl, .inl ⟨_, rfl, _, _, rfl, rfl, (by decide : (0:Int) < 2147483647), ?_⟩⟩
        refine ⟨_, rfl, _, rfl, _, _, rfl, rfl, .inl ⟨by omega, by omega⟩, _, rfl, _, _, rfl, rfl, .inl ⟨by decide, by decide⟩, _, _, rfl, rfl, _, _, rfl, rfl, .inl ⟨_, rfl, _, _, rfl, rfl, (by decide : (0:Int) < 2147483629), ?_⟩⟩
        refine ⟨_, rfl, _, rfl, _, _, rfl, rfl, .inl ⟨by omega, by omega⟩, _, _, rfl, rfl, .inl ⟨_, rfl, _, _, rfl, rfl, (by decide : (0:Int) < 2147483587), ?_⟩⟩
        refine ⟨_, rfl, a, _, _, 3, rfl, rfl, ha, rfl, _, rfl, ?_⟩
        refine ⟨a, _, 3, _, rfl, rfl, ix upd_same, rfl, _, _, rfl, rfl, ⟨by decide, by decide⟩, .inl ⟨_, rfl, _, rfl, _, _, rfl, rfl, hm, ?_⟩⟩
        exact k _ _ (mod_b _ hm).1 (mod_b _ hm).2 ⟨xs, i, r, _, upd_same, by rw [upd_ne hba]; exact hb, hba, hi, hr0⟩ (But.upd _ _ _)
end
end K29
end

section
set_option Elab.async false
set_option linter.all false
set_option maxRecDepth 100000
set_option maxHeartbeats 4000000
/-! The law's picks, blanks and names. -/
namespace K29
open PySem PySem.Spec PyProof.Rows L2 XT
def MORE : List Nat := (List.range 26).map (· + 97) ++ (List.range 26).map (· + 65) ++ (List.range 10).map (· + 48) ++ [95]
theorem z_more : ("abcdefghijklmnopqrstuvwxyzABCDEFGHIJKLMNOPQRSTUVWXYZ0123456789_" : Str) = tx MORE := by decide +kernel
theorem more_at (i : Int) (h0 : 0 ≤ i) (h1 : i < 63) : ∃ c, atI MORE i = some c ∧ inRow c = true ∧ (i < 26 → small c = true) ∧ (26 ≤ i → i < 52 → great c = true) := by
  obtain ⟨n, rfl⟩ := Int.eq_ofNat_of_zero_le h0
  have hn : n < 63 := by omega
  have g : ∀ n : Fin 63, (MORE[n.val]?.map fun c => inRow c && ((decide (26 ≤ n.val) || small c) && (decide (n.val < 26) || (decide (52 ≤ n.val) || great c)))) = some true := by decide +kernel
  have g1 := g ⟨n, hn⟩
  cases e : MORE[n]? with
  | none => simp [e] at g1
  | some c =>
    simp only [e, Option.map_some, Option.some.injEq, Bool.and_eq_true, Bool.or_eq_true, decide_eq_true_eq] at g1
    obtain ⟨g2, g3, g4⟩ := g1
    refine ⟨c, atI_nat e, g2, fun h => ?_, fun h h' => ?_⟩
    · rcases g3 with g3 | g3
      · omega
      · exact g3
    · rcases g4 with g4 | g4 | g4
      · omega
      · omega
      · exact g4
def W17 : List (List Nat) := WD ++ [[118, 97, 108, 117, 101], [115, 97, 109, 101], [84, 114, 117, 116, 104], [78, 111], [89, 101, 115]]
/-- a name of the law -/
structure NameOk (g : Bool) (n : List Nat) : Prop where
  pre : ∃ c r, n = c :: r ∧ (if g then great c else small c) = true ∧ r.all inRow = true
  len : n.length ≤ 9
  now : n ∉ W17
def spPick : Sp := fun vs H Q _ => ∃ (a b : Addr) (l : List Nat), vs = [.ref a, .str (tx l)] ∧ SrcAt H a b ∧ l ≠ [] ∧ l.length ≤ 1000 ∧ ∀ c ∈ l, ∀ H', SrcAt H' a b → But a H H' → Q (.str (tx [c])) H'
def spPickT (K : PySem.W.Frag) : Sp := fun vs H Q _ => ∃ (a b t : Addr) (ws : List (List Nat)), vs = [.ref a, .ref t] ∧ SrcAt H a b ∧ H t = some (.tup (ws.map fun w => .str (tx w))) ∧ ws ≠ [] ∧ ws.length ≤ 1000 ∧ ∀ w ∈ ws, ∀ H', SrcAt H' a b → But a H H' → Q (.str (tx w)) H'
def spLBlanks : Sp := fun vs H Q _ => ∃ (a b : Addr) (m : Nat), vs = [.ref a, .int m] ∧ SrcAt H a b ∧ m ≤ 1 ∧ ∀ n H', m ≤ n → n ≤ 3 → SrcAt H' a b → But a H H' → Q (.str (tx (List.replicate n 32))) H'
def spName : Sp := fun vs H Q _ => ∃ (a b tk : Addr) (g : Bool), vs = [.ref a, .bl g, .ref tk] ∧ SrcAt H a b ∧ tk ≠ b ∧ H tk = some (.lst []) ∧ ∀ n H', NameOk g n → SrcAt H' a b → (∀ b o, H b = some o → b ≠ a → b ≠ tk → H' b = some o) → Q (.str (tx n)) H'
theorem lt100 {n : Nat} (h : n ≤ 1000000) : (n : Int) < 2 ^ 100 := by
  have : (1000000 : Int) < 2 ^ 100 := by decide
  omega
theorem SrcAt.ne {H : Hp} {a x b : Addr} {o : HO} (h : SrcAt H a x) (hb : H b = some o) (d : ∀ x i r s, o ≠ .lst [.ref x, .int i, .int r, .int s]) : b ≠ a := by
  obtain ⟨xs, i, r, s, h1, _⟩ := h.at_
  intro e
  rw [e, h1] at hb
  exact d _ _ _ _ (Option.some.inj hb).symm
theorem SrcAt.keep {H H' : Hp} {a b : Addr} (h : SrcAt H a b) (k : ∀ b o, H b = some o → H' b = some o) : SrcAt H' a b := by
  obtain ⟨xs, i, r, s, h1, h2, h3⟩ := h.at_
  exact ⟨xs, i, r, s, k _ _ h1, k _ _ h2, h3⟩
theorem SrcAt.keep2 {H H' : Hp} {a b t : Addr} (h : SrcAt H a b) (ha : t ≠ a) (hb : t ≠ b) (k : But t H H') : SrcAt H' a b := by
  obtain ⟨xs, i, r, s, h1, h2, h3⟩ := h.at_
  exact ⟨xs, i, r, s, k _ _ h1 (Ne.symm ha), k _ _ h2 (Ne.symm hb), h3⟩
theorem SrcAt.a_some {H : Hp} {a b : Addr} (h : SrcAt H a b) : ∃ o, H a = some o := by
  obtain ⟨xs, i, r, s, h1, _⟩ := h.at_
  exact ⟨_, h1⟩
theorem SrcAt.b_some {H : Hp} {a b : Addr} (h : SrcAt H a b) : ∃ o, H b = some o := by
  obtain ⟨xs, i, r, s, h1, h2, _⟩ := h.at_
  exact ⟨_, h2⟩
theorem SrcAt.new {H : Hp} {a b p : Addr} {o : HO} (h : SrcAt H a b) (hp : H p = none) : SrcAt (upd H p o) a b := h.keep fun b o e => by rw [upd_ne (ne_of_none e hp)]; exact e
theorem z_bl3 : ("   " : Str) = tx (List.replicate 3 32) := by decide +kernel
theorem cut_none (l : List Nat) (j : Nat) : cutS (tx l) none (some (j : Int)) = tx (l.take j) := by
  have h := cut_tx l 0 j
  rw [List.drop_zero] at h
  rw [← h]
  rfl
section
variable {w : World} {K : PySem.W.Frag} {mg : Str → Option Value} {base : Heap}
theorem ok_pick (T : Txt K mg) : FnOk Pg w K mg base CX0 2 (aLawPick K) (fdLawPick K) PLawPick spPick := by
  refine (fLawPick T).ok0 scLawPick (fun vs H Q E h => ?_) (fun cdv A outer s H vs Q E hr h => ?_)
  · obtain ⟨a, b, l, rfl, _⟩ := h
    rfl
  · obtain ⟨a, b, l, rfl, hs, hn, hl, k⟩ := h
    have hr1 : Room 1 _ := hr.mono (by decide)
    refine ⟨_, (pss_one (ps_ret (pe_ix ix_str (pv 1) (pe_call (ok_draw T) hr1 rfl (gLawDraw T) (fLawDraw T).kp (bLawDraw T) .nil pass0 (pa_cons (pv 0) (pa_cons (pe_callB call_len_str (by rfl) (nLen T) PySem.boot_len (pa_cons (pv 1) pa_nil)) pa_nil))) (fun _ _ => rfl)))), ?_⟩
    have h0 : 0 < l.length := List.length_pos_iff.mpr hn
    refine ⟨_, rfl, _, rfl, _, rfl, _, rfl, by rw [tx_len, sizeLine_eq]; omega, a, b, _, rfl, hs, by rw [tx_len]; omega, by rw [tx_len]; exact lt100 (by omega), fun d H1 d0 d1 S1 B1 => ?_⟩
    rw [tx_len] at d1
    obtain ⟨n, rfl⟩ := Int.eq_ofNat_of_zero_le d0
    have hnl : n < l.length := by omega
    refine ⟨_, _, l[n], rfl, rfl, by rw [tx_len, sizeLine_eq]; omega, ?_, k _ (List.getElem_mem hnl) H1 S1 B1⟩
    rw [tx_list]
    exact atI_nat (List.getElem?_eq_getElem hnl)
theorem ok_pickT (T : Txt K mg) : FnOk Pg w K mg base CX0 2 (aLawPick K) (fdLawPick K) PLawPick (spPickT K) := by
  refine (fLawPick T).ok0 scLawPick (fun vs H Q E h => ?_) (fun cdv A outer s H vs Q E hr h => ?_)
  · obtain ⟨a, b, t, ws, rfl, _⟩ := h
    rfl
  · obtain ⟨a, b, t, ws, rfl, hs, ht, hn, hl, k⟩ := h
    have hr1 : Room 1 _ := hr.mono (by decide)
    refine ⟨_, (pss_one (ps_ret (pe_ix ix_tup (pv 1) (pe_call (ok_draw T) hr1 rfl (gLawDraw T) (fLawDraw T).kp (bLawDraw T) .nil pass0 (pa_cons (pv 0) (pa_cons (pe_callB call_len_seq (by rfl) (nLen T) PySem.boot_len (pa_cons (pv 1) pa_nil)) pa_nil))) (fun _ _ => rfl)))), ?_⟩
    have h0 : 0 < ws.length := List.length_pos_iff.mpr hn
    have hta : t ≠ a := hs.ne ht (fun _ _ _ _ => by intro z; cases z)
    refine ⟨_, rfl, _, rfl, _, rfl, t, _, rfl, .inr (SqT.of ht), a, b, _, rfl, hs, by rw [List.length_map]; omega, by rw [List.length_map]; exact lt100 (by omega), fun d H1 d0 d1 S1 B1 => ?_⟩
    rw [List.length_map] at d1
    obtain ⟨n, rfl⟩ := Int.eq_ofNat_of_zero_le d0
    have hnl : n < ws.length := by omega
    refine ⟨t, _, _, .str (tx ws[n]), rfl, rfl, SqT.of (B1 _ _ ht hta), ?_, k _ (List.getElem_mem hnl) H1 S1 B1⟩
    exact atI_nat (by rw [List.getElem?_map, List.getElem?_eq_getElem hnl]; rfl)
theorem ok_lblanks (T : Txt K mg) : FnOk Pg w K mg base CX0 2 (aLawBlanks K) (fdLawBlanks K) PLawBlanks spLBlanks := by
  refine (fLawBlanks T).ok0 scLawBlanks (fun vs H Q E h => ?_) (fun cdv A outer s H vs Q E hr h => ?_)
  · obtain ⟨a, b, m, rfl, _⟩ := h
    rfl
  · obtain ⟨a, b, m, rfl, hs, hm, k⟩ := h
    have hr1 : Room 1 _ := hr.mono (by decide)
    refine ⟨_, (pss_one (ps_ret (pe_slice sl_str pe_str po_none (po_some (pe_op op_add (pv 1) (pe_op op_mul (pe_callTy call_int1 (by rfl) (nInt T) (by decide +kernel) (pa_cons (pe_cmpR op_eq (pe_call (ok_draw T) hr1 rfl (gLawDraw T) (fLawDraw T).kp (bLawDraw T) .nil pass0 (pa_cons (pv 0) (pa_cons pe_int pa_nil))) pe_int (by rfl)) pa_nil)) (pe_call (ok_draw T) hr1 rfl (gLawDraw T) (fLawDraw T).kp (bLawDraw T) .nil pass0 (pa_cons (pv 0) (pa_cons pe_int pa_nil))))))))), ?_⟩
    refine ⟨_, rfl, _, rfl, a, b, 3, rfl, hs, by decide, by decide, fun d H1 d0 d1 S1 B1 => ?_⟩
    refine ⟨rfl, .inr ⟨_, rfl, _, rfl, a, b, 3, rfl, S1, by decide, by decide, fun d' H2 d0' d1' S2 B2 => ?_⟩⟩
    obtain ⟨n, rfl⟩ := Int.eq_ofNat_of_zero_le d0'
    obtain ⟨j, hj, hj2⟩ : ∃ j : Nat, ((if (decide (V.int d = V.int 0)) = true then (1 : Int) else 0) * (n : Int)) = (j : Int) ∧ j ≤ 2 := by
      split
      · exact ⟨n, by omega, by omega⟩
      · exact ⟨0, by omega, by omega⟩
    refine ⟨_, _, rfl, rfl, .inl (by split <;> exact ⟨by decide, by decide⟩), _, _, rfl, rfl, ?_⟩
    refine ⟨(m : Int) + _, rfl, _, rfl, by decide, ?_⟩
    rw [hj]
    have e1 : ((m : Int) + (j : Int)) = ((m + j : Nat) : Int) := by omega
    rw [e1, show (Str.ofString "   ") = tx (List.replicate 3 32) from z_bl3, cut_none, List.take_replicate, Nat.min_eq_left (by omega)]
    exact k (m + j) H2 (by omega) (by omega) S2 (B1.trans B2)
theorem w17_last : ∀ w ∈ W17, w.dropLast ∉ W17 := by decide +kernel
theorem w17_len : ∀ w ∈ W17, w.length ≤ 6 := by decide +kernel
theorem ok_name (T : Txt K mg) : FnOk Pg w K mg base CX0 2 (aLawName K) (fdLawName K) PLawName spName := by
  refine (fLawName T).ok0 scLawName (fun vs H Q E h => ?_) (fun cdv A outer s H vs Q E hr h => ?_)
  · obtain ⟨a, b, tk, g, rfl, _⟩ := h
    rfl
  · obtain ⟨a, b, tk, g, rfl, hs, htb, ht, k⟩ := h
    have hr1 : Room 1 _ := hr.mono (by decide)
    refine ⟨_, (pss_cons (ps_set (i := 3) scLawName.nd rfl (Or.inl rfl) pe_str)
(pss_cons (ps_set (i := 4) scLawName.nd rfl (Or.inl rfl) (pe_tup (pa_cons pe_str (pa_cons pe_str (pa_cons pe_str (pa_cons pe_str (pa_cons pe_str (pa_cons pe_str (pa_cons pe_str (pa_cons pe_str (pa_cons pe_str (pa_cons pe_str (pa_cons pe_str (pa_cons pe_str (pa_cons pe_str (pa_cons pe_str (pa_cons pe_str (pa_cons pe_str (pa_cons pe_str pa_nil)))))))))))))))))))
(pss_cons (ps_set (i := 5) scLawName.nd rfl (Or.inl rfl) (pe_ix ix_str (pv 3) (pe_op op_add (pe_call (ok_draw T) hr1 rfl (gLawDraw T) (fLawDraw T).kp (bLawDraw T) .nil pass0 (pa_cons (pv 0) (pa_cons pe_int pa_nil))) (pe_op op_mul pe_int (pe_callTy call_int1 (by rfl) (nInt T) (by decide +kernel) (pa_cons (pv 1) pa_nil)))) (fun _ _ => rfl)))
(pss_cons (ps_for PassesOwn.never rfl (pi_range1 (by rfl) (nRange T) (pa_cons (pe_call (ok_draw T) hr1 rfl (gLawDraw T) (fLawDraw T).kp (bLawDraw T) .nil pass0 (pa_cons (pv 0) (pa_cons pe_int pa_nil))) pa_nil)) (pg_name (i := 6) scLawName.nd rfl (Or.inl rfl))
(pss_one (ps_set (i := 5) scLawName.nd rfl (Or.inl rfl) (pe_op op_add_str (pv 5) (pe_ix ix_str (pv 3) (pe_call (ok_draw T) hr1 rfl (gLawDraw T) (fLawDraw T).kp (bLawDraw T) .nil pass0 (pa_cons (pv 0) (pa_cons pe_int pa_nil))) (fun _ _ => rfl))))))
(pss_cons (ps_for PassesOwn.never rfl (pi_range1 (by rfl) (nRange T) (pa_cons (pe_op op_add (pe_callB call_len_seq (by rfl) (nLen T) PySem.boot_len (pa_cons (pv 2) pa_nil)) pe_int) pa_nil)) (pg_name (i := 6) scLawName.nd rfl (Or.inl rfl))
(pss_cons (ps_if (PW.pt (pw_and (pt_cmpR op_notIn_seq (pv 5) (pv 2) (by rfl)) (pw_and1 (pt_cmpR op_notIn_seq (pv 5) (pv 4) (by rfl)))))
(pss_one ps_break)
pss_nil)
(pss_one (ps_set (i := 5) scLawName.nd rfl (Or.inl rfl) (pe_op op_add_str (pv 5) (pe_ix ix_str (pv 3) (pe_call (ok_draw T) hr1 rfl (gLawDraw T) (fLawDraw T).kp (bLawDraw T) .nil pass0 (pa_cons (pv 0) (pa_cons pe_int pa_nil))) (fun _ _ => rfl)))))))
(pss_cons (ps_expr (pe_bm PySem.F.plainAttrs_list PySem.F.slot_list_append PySem.F.type_list_append mt_append (pv 2) (pa_cons (pv 5) pa_nil)))
(pss_one (ps_ret (pv 5))))))))), ?_⟩
    have hta : tk ≠ a := hs.ne ht (fun _ _ _ _ => by intro z; cases z)
    refine ⟨szL (n := 17) rfl (by decide), fun wt hwt => ?_⟩
    have S0 : SrcAt _ a b := hs.new hwt (o := .tup (W17.map fun w => V.str (tx w)))
    have hw0 : (upd H wt (.tup (W17.map fun w => V.str (tx w)))) wt = some (.tup (W17.map fun w => V.str (tx w))) := upd_same
    have ht0 : (upd H wt (.tup (W17.map fun w => V.str (tx w)))) tk = some (.lst []) := by rw [upd_ne (ne_of_none ht hwt)]; exact ht
    have e17 : ([.str "kind", .str "var", .str "make", .str "act", .str "if", .str "then", .str "else", .str "do", .str "answer", .str "and", .str "or", .str "not", .str "value", .str "same", .str "Truth", .str "No", .str "Yes"] : List V) = W17.map fun w => V.str (tx w) := by decide +kernel
    have K0 : ∀ b o, H b = some o → (upd H wt (.tup (W17.map fun w => V.str (tx w)))) b = some o := fun b o e => by rw [upd_ne (ne_of_none e hwt)]; exact e
    have hwa : wt ≠ a := S0.ne hw0 (fun _ _ _ _ => by intro z; cases z)
    rw [e17]
    generalize (upd H wt (.tup (W17.map fun w => V.str (tx w)))) = H0 at *
    refine ⟨_, rfl, _, rfl, a, b, 26, rfl, S0, by decide, by decide, fun d H1 d0 d1 S1 B1 => ?_⟩
    refine ⟨_, rfl, .inr ⟨_, rfl, ?_⟩⟩
    have hx : ∃ x : Int, x = d + 26 * (if g = true then 1 else 0) ∧ 0 ≤ x ∧ x < 63 := by
      refine ⟨_, rfl, ?_, ?_⟩ <;> cases g <;> simp <;> omega
    obtain ⟨x, ex, x0, x1⟩ := hx
    obtain ⟨c, hc, hc1, hc2, hc3⟩ := more_at x x0 x1
    refine ⟨_, _, rfl, rfl, .inl ⟨by decide, by decide⟩, _, _, rfl, rfl, ?_⟩
    refine ⟨_, _, c, rfl, rfl, by decide +kernel, by
      rw [← ex]
      exact (congrArg (fun z : Str => atI z.cps.toList x) z_more).trans ((congrArg (atI · x) (tx_list MORE)).trans hc), ?_⟩
    have hp : (if g then great c else small c) = true := by
      cases g with
      | true => exact hc3 (by simp at ex; omega) (by simp at ex; omega)
      | false => exact hc2 (by simp at ex; omega)
    refine ⟨_, rfl, a, b, 3, rfl, S1, by decide, by decide, fun d2 H2 d20 d21 S2 B2 => ?_⟩
    let st : List Nat → Option V → L2.St := fun n v => [some (.ref a), some (.bl g), some (.ref tk), some (.str "abcdefghijklmnopqrstuvwxyzABCDEFGHIJKLMNOPQRSTUVWXYZ0123456789_"), some (.ref wt), some (.str (tx n)), v]
    have pre : ∀ {n : List Nat} {y : Nat}, (∃ c r, n = c :: r ∧ (if g then great c else small c) = true ∧ r.all inRow = true) → inRow y = true → ∃ c r, n ++ [y] = c :: r ∧ (if g then great c else small c) = true ∧ r.all inRow = true := by
      rintro n y ⟨c, r, rfl, h1, h2⟩ hy
      exact ⟨c, r ++ [y], rfl, h1, by simp [List.all_append, h2, hy]⟩
    refine ⟨_, rfl, by omega, by omega, for_range (fun i σ H3 => ∃ (n : List Nat) (v : Option V), σ = st n v ∧ (∃ c r, n = c :: r ∧ (if g then great c else small c) = true ∧ r.all inRow = true) ∧ n.length ≤ 1 + i ∧ SrcAt H3 a b ∧ But a H0 H3)
      ⟨[c], none, rfl, ⟨c, [], rfl, hp, rfl⟩, by simp, S2, B1.trans B2⟩ ?_ ?_⟩
    · rintro i σ H3 hi ⟨n, v, rfl, pn, ln, S3, B3⟩
      refine ⟨_, rfl, _, rfl, _, rfl, a, b, 63, rfl, S3, by decide, by decide, fun y H4 y0 y1 S4 B4 => ?_⟩
      obtain ⟨e, he, he1, _⟩ := more_at y y0 y1
      refine ⟨_, _, e, rfl, rfl, by decide +kernel, (congrArg (fun z : Str => atI z.cps.toList y) z_more).trans ((congrArg (atI · y) (tx_list MORE)).trans he), ?_⟩
      refine ⟨_, tx [e], rfl, rfl, by rw [tx_len, tx_len, sizeLine_eq]; simp; omega, ?_⟩
      rw [tx_app]
      exact ⟨n ++ [e], _, rfl, pre pn he1, by simp; omega, S4, B3.trans B4⟩
    rintro σ H3 ⟨n, v, rfl, pn, ln, S3, B3⟩
    have ln3 : n.length ≤ 3 := by omega
    have ht3 := B3 _ _ ht0 hta
    refine ⟨_, rfl, tk, [], rfl, .inl (SqL.of ht3), _, _, rfl, rfl, _, rfl, by decide, by decide, ?_⟩
    refine for_range (n := 3) (fun i σ H3 => ∃ (n : List Nat) (v : Option V), σ = st n v ∧ (∃ c r, n = c :: r ∧ (if g then great c else small c) = true ∧ r.all inRow = true) ∧ n.length ≤ 3 + i ∧ SrcAt H3 a b ∧ But a H0 H3 ∧ (i = 0 ∨ (i = 1 ∧ n.dropLast ∈ W17)))
      ⟨n, _, rfl, pn, ln3, S3, B3, .inl rfl⟩ ?_ ?_
    · rintro i σ H4 hi ⟨n, v, rfl, pn, ln, S4, B4, hW⟩
      have ht4 := B4 _ _ ht0 hta
      refine ⟨_, rfl, _, rfl, tk, [], rfl, .inl (SqL.of ht4), rfl, rfl, _, rfl, ?_⟩
      refine iteT ?_
      have hw4 := B4 _ _ hw0 hwa
      refine ⟨_, rfl, _, rfl, wt, _, rfl, .inr (SqT.of hw4), rfl, flat_strs W17, _, rfl, ?_⟩
      rw [in_strs]
      by_cases hn : n ∈ W17
      · rw [decide_eq_true hn]
        refine iteF ?_
        have hi0 : i = 0 := by
          rcases hW with h | ⟨_, h⟩
          · exact h
          · exact absurd h (w17_last n hn)
        refine ⟨_, rfl, _, rfl, _, rfl, a, b, 63, rfl, S4, by decide, by decide, fun y H5 y0 y1 S5 B5 => ?_⟩
        obtain ⟨e, he, he1, _⟩ := more_at y y0 y1
        refine ⟨_, _, e, rfl, rfl, by decide +kernel, (congrArg (fun z : Str => atI z.cps.toList y) z_more).trans ((congrArg (atI · y) (tx_list MORE)).trans he), ?_⟩
        refine ⟨_, tx [e], rfl, rfl, by rw [tx_len, tx_len, sizeLine_eq]; simp; omega, ?_⟩
        rw [tx_app]
        exact ⟨n ++ [e], _, rfl, pre pn he1, by simp; omega, S5, B4.trans B5, .inr ⟨by omega, by simpa using hn⟩⟩
      · rw [decide_eq_false hn]
        refine iteT ?_
        refine ⟨_, rfl, .inl ⟨rfl, _, SqL.of ht4⟩, _, rfl, tk, [], _, rfl, rfl, ht4, by rw [sizeLine_eq]; decide, ?_⟩
        refine ⟨_, rfl, k n _ ⟨pn, by omega, hn⟩ ?_ fun b o e hb hb2 => ?_⟩
        · exact S4.keep2 hta htb (But.upd _ _ _)
        · rw [upd_ne hb2]
          exact B4 _ _ (K0 _ _ e) hb
    · rintro σ H4 ⟨n, v, rfl, pn, ln, S4, B4, hW⟩
      omega
end
end K29
end

section
set_option Elab.async false
set_option linter.all false
set_option maxRecDepth 100000
set_option maxHeartbeats 4000000
/-! The law's rows of tokens. -/
namespace K29
open PySem PySem.Spec PyProof.Rows L2 XT
def valToks : List (List Nat) → List (List Nat)
  | [] => []
  | [v] => [v]
  | v :: u :: r => v :: [44] :: valToks (u :: r)
theorem valToks_snoc : ∀ (vs : List (List Nat)) (v : List Nat), valToks (vs ++ [v]) = valToks vs ++ (if vs = [] then [v] else [[44], v])
  | [], _ => rfl
  | [_], _ => rfl
  | a :: b :: r, v => by
    have ih := valToks_snoc (b :: r) v
    rw [if_neg (by simp)] at ih
    show valToks (a :: b :: (r ++ [v])) = _
    rw [valToks, ← List.cons_append, ih, if_neg (by simp)]
    simp [valToks]
theorem valToks_len : ∀ vs : List (List Nat), (valToks vs).length ≤ 2 * vs.length
  | [] => Nat.zero_le _
  | [_] => by simp [valToks]
  | a :: b :: r => by
    have ih := valToks_len (b :: r)
    simp only [valToks, List.length_cons] at ih ⊢
    omega
def ansTok : Nat ⊕ List Nat → List Nat
  | .inl n => TL.numL n
  | .inr w => w
/-- the tokens of a row -/
def toks (x : CRow) : List (List Nat) := [partL x.isMk, TL.numL x.frame, x.name, [40]] ++ valToks x.vals ++ [[41], [45, 62], ansTok x.ans]
structure ROk (x : CRow) : Prop where
  frame : x.frame < 10 ^ 20
  name : NameOk x.isMk x.name
  vals : ∀ v ∈ x.vals, NameOk true v
  many : x.vals.length ≤ 3
  ans : match x.ans with
    | .inl n => x.isMk = true ∧ n < 10 ^ 6
    | .inr w => x.isMk = false ∧ NameOk true w
def stV (l : List (List Nat)) : List V := l.map fun w => .str (tx w)
theorem stV_app (a b : List (List Nat)) : stV a ++ stV b = stV (a ++ b) := by simp [stV]
theorem stV_len (a : List (List Nat)) : (stV a).length = a.length := by simp [stV]
theorem num_tx (n : Nat) : Str.ofString (toString ((n : Nat) : Int)) = tx (TL.numL n) := (tx_of _).trans (congrArg tx (TL.tl_num n))
theorem But.new {a p : Addr} {H : Hp} {o : HO} (hp : H p = none) : But a H (L2.upd H p o) := fun b u e _ => by rw [upd_ne (ne_of_none e hp)]; exact e
theorem But.name {a p : Addr} {H H' : Hp} {o : HO} (hp : H p = none) (k : ∀ b u, (L2.upd H p o) b = some u → b ≠ a → b ≠ p → H' b = some u) : But a H H' := fun b u e hb => k b u (by rw [upd_ne (ne_of_none e hp)]; exact e) hb (ne_of_none e hp)
theorem But.put {a p : Addr} {H H1 : Hp} {o : HO} (h : But a H H1) (hp : H p = none) : But a H (L2.upd H1 p o) := fun b u e hb => by rw [upd_ne (ne_of_none e hp)]; exact h b u e hb
/-- an object of its own, beside the source -/
theorem SrcAt.putL {H : Hp} {a b p : Addr} {o : HO} (h : SrcAt H a b) (ha : p ≠ a) (hb : p ≠ b) : SrcAt (upd H p o) a b := h.keep2 ha hb (But.upd _ _ _)
theorem SrcAt.ap {H : Hp} {a b p : Addr} (h : SrcAt H a b) (hp : H p = none) : p ≠ a ∧ p ≠ b := by
  obtain ⟨o, ha⟩ := h.a_some
  obtain ⟨u, hb⟩ := h.b_some
  exact ⟨Ne.symm (ne_of_none ha hp), Ne.symm (ne_of_none hb hp)⟩
theorem log_small {n : Int} (h0 : 0 ≤ n) (h1 : n < 10 ^ 20) : n.natAbs.log2 < 1920 := by
  have h2 : n.natAbs < 2 ^ 1920 := by
    have e : (10 : Int) ^ 20 = 100000000000000000000 := by decide
    have : (100000000000000000000 : Nat) < 2 ^ 1920 := by decide +kernel
    omega
  by_cases hz : n.natAbs = 0
  · rw [hz]; decide
  · exact (Nat.log2_lt hz).mpr h2
theorem three_at (u v w : Int) {d : Int} (h0 : 0 ≤ d) (h1 : d < 3) : ∃ M, atI [V.int u, V.int v, V.int w] d = some (V.int M) ∧ (M = u ∨ M = v ∨ M = w) := by
  rcases (show d = 0 ∨ d = 1 ∨ d = 2 by omega) with rfl | rfl | rfl
  · exact ⟨u, rfl, .inl rfl⟩
  · exact ⟨v, rfl, .inr (.inl rfl)⟩
  · exact ⟨w, rfl, .inr (.inr rfl)⟩
theorem ten20 : (10 : Int) ^ (20 : Int).toNat = 100000000000000000000 := by decide
theorem ten6 : (10 : Int) ^ (6 : Int).toNat = 1000000 := by decide
theorem ten20lt : (100000000000000000000 : Int) < 2 ^ 100 := by decide
theorem ten6lt : (1000000 : Int) < 2 ^ 100 := by decide
def spWild (K : PySem.W.Frag) : Sp := fun vs H Q _ => ∃ (a b : Addr), vs = [.ref a] ∧ SrcAt H a b ∧ ∀ x t H', ROk x → H t = none → H' t = some (.lst (stV (toks x))) → SrcAt H' a b → But a H H' → Q (.ref t) H'
section
variable {w : World} {K : PySem.W.Frag} {mg : Str → Option Value} {base : Heap}
theorem ok_wild (T : Txt K mg) : FnOk Pg w K mg base CX0 3 (aLawWild K) (fdLawWild K) PLawWild (spWild K) := by
  refine (fLawWild T).ok0 scLawWild (fun vs H Q E h => ?_) (fun cdv A outer s H vs Q E hr h => ?_)
  · obtain ⟨a, b, rfl, _⟩ := h
    rfl
  · obtain ⟨a, b, rfl, hs, k⟩ := h
    have hr1 : Room 1 _ := hr.mono (by decide)
    have hr2 : Room 2 _ := hr.mono (by decide)
    refine ⟨_, (pss_cons (ps_set (i := 1) scLawWild.nd rfl (Or.inl rfl) (pe_ix ix_tup (pe_tup (pa_cons pe_str (pa_cons pe_str pa_nil))) (pe_call (ok_draw T) hr1 rfl (gLawDraw T) (fLawDraw T).kp (bLawDraw T) .nil pass0 (pa_cons (pv 0) (pa_cons pe_int pa_nil))) (fun _ _ => rfl)))
(pss_cons (ps_set (i := 2) scLawWild.nd rfl (Or.inl rfl) (pe_lst (pa_cons (pv 1) (pa_cons (pe_callTy call_str_int (by rfl) (nStr T) (by decide +kernel) (pa_cons (pe_call (ok_draw T) hr1 rfl (gLawDraw T) (fLawDraw T).kp (bLawDraw T) .nil pass0 (pa_cons (pv 0) (pa_cons (pe_ix ix_tup (pe_tup (pa_cons pe_int (pa_cons pe_int (pa_cons (pe_op op_pow pe_int pe_int) pa_nil)))) (pe_call (ok_draw T) hr1 rfl (gLawDraw T) (fLawDraw T).kp (bLawDraw T) .nil pass0 (pa_cons (pv 0) (pa_cons pe_int pa_nil))) (fun _ _ => rfl)) pa_nil))) pa_nil)) pa_nil))))
(pss_cons (ps_expr (pe_bm PySem.F.plainAttrs_list PySem.F.slot_list_extend PySem.F.type_list_extend mt_extend (pv 2) (pa_cons (pe_lst (pa_cons (pe_call (ok_name T) hr2 rfl (gLawName T) (fLawName T).kp (bLawName T) .nil pass0 (pa_cons (pv 0) (pa_cons (pe_cmpR op_eq (pv 1) pe_str (by rfl)) (pa_cons (pe_lst pa_nil) pa_nil)))) (pa_cons pe_str pa_nil))) pa_nil)))
(pss_cons (ps_for PassesOwn.never rfl (pi_range1 (by rfl) (nRange T) (pa_cons (pe_call (ok_draw T) hr1 rfl (gLawDraw T) (fLawDraw T).kp (bLawDraw T) .nil pass0 (pa_cons (pv 0) (pa_cons pe_int pa_nil))) pa_nil)) (pg_name (i := 3) scLawWild.nd rfl (Or.inl rfl))
(pss_cons (ps_if (pt_cmpR op_gt (pv 3) pe_int (by rfl))
(pss_one (ps_expr (pe_bm PySem.F.plainAttrs_list PySem.F.slot_list_append PySem.F.type_list_append mt_append (pv 2) (pa_cons pe_str pa_nil))))
pss_nil)
(pss_one (ps_expr (pe_bm PySem.F.plainAttrs_list PySem.F.slot_list_append PySem.F.type_list_append mt_append (pv 2) (pa_cons (pe_call (ok_name T) hr2 rfl (gLawName T) (fLawName T).kp (bLawName T) .nil pass0 (pa_cons (pv 0) (pa_cons pe_bl (pa_cons (pe_lst pa_nil) pa_nil)))) pa_nil))))))
(pss_cons (ps_expr (pe_bm PySem.F.plainAttrs_list PySem.F.slot_list_extend PySem.F.type_list_extend mt_extend (pv 2) (pa_cons (pe_lst (pa_cons pe_str (pa_cons pe_str pa_nil))) pa_nil)))
(pss_cons (ps_if (pt_cmpR op_eq (pv 1) pe_str (by rfl))
(pss_one (ps_expr (pe_bm PySem.F.plainAttrs_list PySem.F.slot_list_append PySem.F.type_list_append mt_append (pv 2) (pa_cons (pe_callTy call_str_int (by rfl) (nStr T) (by decide +kernel) (pa_cons (pe_call (ok_draw T) hr1 rfl (gLawDraw T) (fLawDraw T).kp (bLawDraw T) .nil pass0 (pa_cons (pv 0) (pa_cons (pe_ix ix_tup (pe_tup (pa_cons pe_int (pa_cons pe_int (pa_cons (pe_op op_pow pe_int pe_int) pa_nil)))) (pe_call (ok_draw T) hr1 rfl (gLawDraw T) (fLawDraw T).kp (bLawDraw T) .nil pass0 (pa_cons (pv 0) (pa_cons pe_int pa_nil))) (fun _ _ => rfl)) pa_nil))) pa_nil)) pa_nil))))
(pss_one (ps_expr (pe_bm PySem.F.plainAttrs_list PySem.F.slot_list_append PySem.F.type_list_append mt_append (pv 2) (pa_cons (pe_call (ok_name T) hr2 rfl (gLawName T) (fLawName T).kp (bLawName T) .nil pass0 (pa_cons (pv 0) (pa_cons pe_bl (pa_cons (pe_lst pa_nil) pa_nil)))) pa_nil)))))
(pss_one (ps_ret (pv 2))))))))), ?_⟩
    -- the word
    refine ⟨szL (n := 2) rfl (by decide), fun p1 hp1 => ?_⟩
    have B1 : But a H _ := But.new hp1 (o := .tup [.str "make", .str "act"])
    have S1 : SrcAt _ a b := hs.new hp1 (o := .tup [.str "make", .str "act"])
    refine ⟨_, rfl, a, b, 2, rfl, S1, by decide, by decide, fun d H2 d0 d1 S2 B2 => ?_⟩
    have hp1a := (hs.ap hp1).1
    refine ⟨p1, _, d, .str (tx (partL (decide (d = 0)))), rfl, rfl, SqT.of (B2 _ _ upd_same hp1a), ?_, ?_⟩
    · rcases (show d = 0 ∨ d = 1 by omega) with rfl | rfl
      · exact congrArg (fun z => some (V.str z)) z_make
      · exact congrArg (fun z => some (V.str z)) z_act
    have B02 : But a H H2 := B1.trans B2
    clear B1 B2 S1
    generalize hm : decide (d = 0) = m
    refine ⟨_, rfl, _, rfl, _, _, rfl, rfl, ⟨by decide, by decide, by decide⟩, szL (n := 3) rfl (by decide), fun p2 hp2 => ?_⟩
    have B3 : But a H _ := B02.trans (But.new hp2 (o := .tup [.int 3, .int 100, .int ((10 : Int) ^ (20 : Int).toNat)]))
    have S3 : SrcAt _ a b := S2.new hp2 (o := .tup [.int 3, .int 100, .int ((10 : Int) ^ (20 : Int).toNat)])
    refine ⟨_, rfl, a, b, 3, rfl, S3, by decide, by decide, fun d3 H4 d30 d31 S4 B4 => ?_⟩
    have hp2a := (S2.ap hp2).1
    obtain ⟨M, hM, hMc⟩ := three_at 3 100 ((10 : Int) ^ (20 : Int).toNat) d30 d31
    rw [ten20] at hMc
    refine ⟨p2, _, d3, _, rfl, rfl, SqT.of (B4 _ _ upd_same hp2a), hM, ?_⟩
    refine ⟨a, b, M, rfl, S4, by omega, by have := ten20lt; omega, fun n H5 n0 n1 S5 B5 => ?_⟩
    have n2 : n < 10 ^ 20 := by have e : (10 : Int) ^ 20 = 100000000000000000000 := by decide
                                omega
    obtain ⟨fr, rfl⟩ := Int.eq_ofNat_of_zero_le n0
    have hfr : fr < 10 ^ 20 := by have e : (10 : Int) ^ 20 = 100000000000000000000 := by decide
                                  have e : (10 : Nat) ^ 20 = 100000000000000000000 := by decide
                                  omega
    have B05 : But a H H5 := (B3.trans B4).trans B5
    clear B3 B4 B5 S3 S4 B02 S2
    refine ⟨_, rfl, log_small n0 n2, szL (n := 2) rfl (by decide), fun t ht => ?_⟩
    rw [num_tx]
    have ht0 : H t = none := by
      cases e : H t with
      | none => rfl
      | some o =>
        by_cases hta : t = a
        · exact absurd hta (S5.ap ht).1
        · exact absurd (B05 _ _ e hta) (by rw [ht]; simp)
    obtain ⟨hta, htb⟩ := S5.ap ht
    have T6 : (L2.upd H5 t (.lst (stV [partL m, TL.numL fr]))) t = some (.lst (stV [partL m, TL.numL fr])) := upd_same
    have S6 : SrcAt (L2.upd H5 t (.lst (stV [partL m, TL.numL fr]))) a b := S5.new ht
    have B6 : But a H (L2.upd H5 t (.lst (stV [partL m, TL.numL fr]))) := B05.trans (But.new ht)
    show tNext _ _ (L2.upd H5 t (.lst (stV [partL m, TL.numL fr])))
    generalize L2.upd H5 t (.lst (stV [partL m, TL.numL fr])) = H6 at *
    -- the name
    refine ⟨_, rfl, .inl ⟨rfl, _, SqL.of T6⟩, _, rfl, _, rfl, rfl, szL (n := 0) rfl (by decide), fun k1 hk1 => ?_⟩
    refine ⟨a, b, k1, _, rfl, S6.new hk1, (S6.ap hk1).2, upd_same, fun nm H7 hn S7 N7 => ?_⟩
    have hn' : NameOk m nm := by
      have e := z_part m
      rw [← z_make] at e
      rw [← e]
      exact hn
    have B7 : But a H H7 := B6.trans (But.name hk1 N7)
    have T7 : H7 t = some (.lst (stV [partL m, TL.numL fr])) := N7 _ _ (by rw [upd_ne (ne_of_none T6 hk1)]; exact T6) hta (ne_of_none T6 hk1)
    clear N7 hn B6 S6 T6 hk1 B05 S5
    refine ⟨szL (n := 2) rfl (by decide), fun q1 hq1 => ?_⟩
    refine ⟨t, q1, _, _, rfl, rfl, by rw [upd_ne (ne_of_none T7 hq1)]; exact T7, upd_same, by rw [sizeLine_eq]; show 2 + 2 ≤ 16777216; decide, ?_⟩
    have T8 : (L2.upd (L2.upd H7 q1 (.lst [.str (tx nm), .str "("])) t (.lst (stV [partL m, TL.numL fr] ++ [.str (tx nm), .str "("]))) t = some (.lst (stV ([partL m, TL.numL fr, nm, [40]] ++ valToks []))) := by
      rw [upd_same, z_op]
      rfl
    have S8 : SrcAt (L2.upd (L2.upd H7 q1 (.lst [.str (tx nm), .str "("])) t (.lst (stV [partL m, TL.numL fr] ++ [.str (tx nm), .str "("]))) a b := (S7.new hq1).putL hta htb
    have B8 : But a H (L2.upd (L2.upd H7 q1 (.lst [.str (tx nm), .str "("])) t (.lst (stV [partL m, TL.numL fr] ++ [.str (tx nm), .str "("]))) := (B7.trans (But.new hq1)).put ht0
    generalize L2.upd (L2.upd H7 q1 (.lst [.str (tx nm), .str "("])) t (.lst (stV [partL m, TL.numL fr] ++ [.str (tx nm), .str "("])) = H8 at *
    clear T7 S7 B7 hq1
    -- the values
    refine ⟨_, rfl, a, b, 4, rfl, S8, by decide, by decide, fun d4 H9 d40 d41 S9 B9 => ?_⟩
    refine ⟨_, rfl, by omega, by omega, for_range (fun i σ H1 => ∃ (vs : List (List Nat)) (v : Option V), σ = [some (.ref a), some (.str (tx (partL m))), some (.ref t), v] ∧ vs.length = i ∧ (∀ v ∈ vs, NameOk true v) ∧ H1 t = some (.lst (stV ([partL m, TL.numL fr, nm, [40]] ++ valToks vs))) ∧ SrcAt H1 a b ∧ But a H H1)
      ⟨[], none, rfl, rfl, by simp, B9 _ _ T8 hta, S9, B8.trans B9⟩ ?_ ?_⟩
    · rintro i σ H1 hi ⟨vs, v, rfl, lv, ov, T1, S1, B1⟩
      have hi3 : i < 3 := by omega
      have small : ∀ l : List (List Nat), l.length ≤ 30 → (stV l).length < sizeLine := fun l h => by rw [stV_len, sizeLine_eq]; omega
      have lT : ([partL m, TL.numL fr, nm, [40]] ++ valToks vs).length ≤ 20 := by
        have := valToks_len vs
        simp only [List.length_append, List.length_cons, List.length_nil]
        omega
      refine ⟨_, rfl, _, _, rfl, rfl, _, rfl, ?_⟩
      by_cases h0 : 0 < i
      · rw [show decide ((0 : Int) < 0 + (i : Int)) = true from decide_eq_true (by omega)]
        refine iteT ?_
        refine ⟨_, rfl, .inl ⟨rfl, _, SqL.of T1⟩, t, _, _, rfl, rfl, T1, small _ (by omega), ?_⟩
        have T2 : (L2.upd H1 t (.lst (stV ([partL m, TL.numL fr, nm, [40]] ++ valToks vs) ++ [.str ","]))) t = some (.lst (stV ([partL m, TL.numL fr, nm, [40]] ++ valToks vs ++ [[44]]))) := by
          rw [upd_same, z_co]
          simp [stV]
        have S2 : SrcAt (L2.upd H1 t (.lst (stV ([partL m, TL.numL fr, nm, [40]] ++ valToks vs) ++ [.str ","]))) a b := S1.putL hta htb
        have B2 : But a H (L2.upd H1 t (.lst (stV ([partL m, TL.numL fr, nm, [40]] ++ valToks vs) ++ [.str ","]))) := B1.put ht0
        generalize L2.upd H1 t (.lst (stV ([partL m, TL.numL fr, nm, [40]] ++ valToks vs) ++ [.str ","])) = H2 at *
        refine ⟨_, rfl, .inl ⟨rfl, _, SqL.of T2⟩, _, rfl, szL (n := 0) rfl (by decide), fun k2 hk2 => ?_⟩
        refine ⟨a, b, k2, _, rfl, S2.new hk2, (S2.ap hk2).2, upd_same, fun u H3 hu S3 N3 => ?_⟩
        have T3 := N3 _ _ (by rw [upd_ne (ne_of_none T2 hk2)]; exact T2) hta (ne_of_none T2 hk2)
        refine ⟨t, _, _, rfl, rfl, T3, small _ (by rw [List.length_append]; simp only [List.length_cons, List.length_nil]; omega), ?_⟩
        refine ⟨vs ++ [u], _, rfl, by simp [lv], ?_, ?_, S3.putL hta htb, ((B2.trans (But.name hk2 N3))).put ht0⟩
        · intro z hz
          rcases List.mem_append.mp hz with hz | hz
          · exact ov z hz
          · rw [List.mem_singleton.mp hz]; exact hu
        · have hne : ¬ vs = [] := by intro e; rw [e] at lv; simp at lv; omega
          rw [upd_same, valToks_snoc, if_neg hne]
          simp [stV]
      · have hi0 : i = 0 := by omega
        subst hi0
        obtain rfl : vs = [] := List.length_eq_zero_iff.mp lv
        rw [show decide ((0 : Int) < 0 + ((0 : Nat) : Int)) = false from rfl]
        refine iteF ?_
        refine ⟨_, rfl, .inl ⟨rfl, _, SqL.of T1⟩, _, rfl, szL (n := 0) rfl (by decide), fun k2 hk2 => ?_⟩
        refine ⟨a, b, k2, _, rfl, S1.new hk2, (S1.ap hk2).2, upd_same, fun u H3 hu S3 N3 => ?_⟩
        have T3 := N3 _ _ (by rw [upd_ne (ne_of_none T1 hk2)]; exact T1) hta (ne_of_none T1 hk2)
        refine ⟨t, _, _, rfl, rfl, T3, small _ (by omega), ?_⟩
        refine ⟨[u], _, rfl, rfl, ?_, ?_, S3.putL hta htb, (B1.trans (But.name hk2 N3)).put ht0⟩
        · intro z hz
          rw [List.mem_singleton.mp hz]; exact hu
        · rw [upd_same]
          simp [stV, valToks]
    rintro σ H1 ⟨vs, v, rfl, lv, ov, T1, S1, B1⟩
    have lv3 : vs.length ≤ 3 := by omega
    have lT : ([partL m, TL.numL fr, nm, [40]] ++ valToks vs).length ≤ 20 := by
      have := valToks_len vs
      simp only [List.length_append, List.length_cons, List.length_nil]
      omega
    have small : ∀ l : List (List Nat), l.length ≤ 30 → (stV l).length < sizeLine := fun l h => by rw [stV_len, sizeLine_eq]; omega
    refine ⟨_, rfl, .inl ⟨rfl, _, SqL.of T1⟩, szL (n := 2) rfl (by decide), fun q hq => ?_⟩
    refine ⟨t, q, _, _, rfl, rfl, by rw [upd_ne (ne_of_none T1 hq)]; exact T1, upd_same, by rw [stV_len, sizeLine_eq]; simp only [List.length_cons, List.length_nil]; omega, ?_⟩
    have T2 : (L2.upd (L2.upd H1 q (.lst [.str ")", .str "->"])) t (.lst (stV ([partL m, TL.numL fr, nm, [40]] ++ valToks vs) ++ [.str ")", .str "->"]))) t = some (.lst (stV ([partL m, TL.numL fr, nm, [40]] ++ valToks vs ++ [[41], [45, 62]]))) := by
      rw [upd_same, z_cl, z_to]
      simp [stV]
    have S2 : SrcAt (L2.upd (L2.upd H1 q (.lst [.str ")", .str "->"])) t (.lst (stV ([partL m, TL.numL fr, nm, [40]] ++ valToks vs) ++ [.str ")", .str "->"]))) a b := (S1.new hq).putL hta htb
    have B2 : But a H (L2.upd (L2.upd H1 q (.lst [.str ")", .str "->"])) t (.lst (stV ([partL m, TL.numL fr, nm, [40]] ++ valToks vs) ++ [.str ")", .str "->"]))) := (B1.trans (But.new hq)).put ht0
    generalize L2.upd (L2.upd H1 q (.lst [.str ")", .str "->"])) t (.lst (stV ([partL m, TL.numL fr, nm, [40]] ++ valToks vs) ++ [.str ")", .str "->"])) = H2 at *
    have lT2 : ([partL m, TL.numL fr, nm, [40]] ++ valToks vs ++ [[41], [45, 62]]).length ≤ 22 := by
      rw [List.length_append]
      simp only [List.length_cons, List.length_nil]
      omega
    refine ⟨_, rfl, rfl, _, rfl, ?_⟩
    rw [z_make, z_part]
    cases m with
    | true =>
      refine iteT ?_
      refine ⟨_, rfl, .inl ⟨rfl, _, SqL.of T2⟩, _, rfl, _, _, rfl, rfl, ⟨by decide, by decide, by decide⟩, szL (n := 3) rfl (by decide), fun p5 hp5 => ?_⟩
      have S3 : SrcAt _ a b := S2.new hp5 (o := .tup [.int 3, .int 100, .int ((10 : Int) ^ (6 : Int).toNat)])
      refine ⟨_, rfl, a, b, 3, rfl, S3, by decide, by decide, fun d5 H4 d50 d51 S4 B4 => ?_⟩
      obtain ⟨M5, hM5, hMc5⟩ := three_at 3 100 ((10 : Int) ^ (6 : Int).toNat) d50 d51
      rw [ten6] at hMc5
      refine ⟨p5, _, d5, _, rfl, rfl, SqT.of (B4 _ _ upd_same (S2.ap hp5).1), hM5, ?_⟩
      refine ⟨a, b, M5, rfl, S4, by omega, by have := ten6lt; omega, fun n5 H5 n50 n51 S5 B5 => ?_⟩
      obtain ⟨an, rfl⟩ := Int.eq_ofNat_of_zero_le n50
      refine ⟨_, rfl, log_small n50 (by have e : (10 : Int) ^ 20 = 100000000000000000000 := by decide
                                        omega), ?_⟩
      have T5 := B5 _ _ (B4 _ _ (by rw [upd_ne (ne_of_none T2 hp5)]; exact T2) hta) hta
      refine ⟨t, _, _, rfl, rfl, T5, small _ (by omega), ?_⟩
      refine ⟨_, rfl, k ⟨true, fr, nm, vs, .inl an⟩ t _ ⟨hfr, hn', ov, lv3, rfl, by have e : (10 : Nat) ^ 6 = 1000000 := by decide
                                                                                    omega⟩ ht0 ?_ (S5.putL hta htb) ((((B2.trans (But.new hp5)).trans B4).trans B5).put ht0)⟩
      rw [upd_same, num_tx]
      simp [stV, toks, ansTok]
    | false =>
      refine iteF ?_
      refine ⟨_, rfl, .inl ⟨rfl, _, SqL.of T2⟩, _, rfl, szL (n := 0) rfl (by decide), fun k2 hk2 => ?_⟩
      refine ⟨a, b, k2, _, rfl, S2.new hk2, (S2.ap hk2).2, upd_same, fun u H3 hu S3 N3 => ?_⟩
      have T3 := N3 _ _ (by rw [upd_ne (ne_of_none T2 hk2)]; exact T2) hta (ne_of_none T2 hk2)
      refine ⟨t, _, _, rfl, rfl, T3, small _ (by omega), ?_⟩
      refine ⟨_, rfl, k ⟨false, fr, nm, vs, .inr u⟩ t _ ⟨hfr, hn', ov, lv3, rfl, hu⟩ ht0 ?_ (S3.putL hta htb) ((B2.trans (But.name hk2 N3)).put ht0)⟩
      rw [upd_same]
      simp [stV, toks, ansTok]
end
end K29
end

section
set_option Elab.async false
set_option linter.all false
set_option maxRecDepth 100000
set_option maxHeartbeats 4000000
/-! The law's spelling of a row. -/
namespace K29
open PySem PySem.Spec PyProof.Rows L2 XT
theorem andV {ta tb : TE} {σ : L2.St} {H : Hp} {c1 c2 : Bool} {Q' : VK} (h1 : ∀ Q : VK, Q (.bl c1) H → ta σ H Q) (h2 : c1 = true → ∀ Q : VK, Q (.bl c2) H → tb σ H Q) (h : Q' (.bl (c1 && c2)) H) : tAndV ta tb σ H Q' := by
  refine h1 _ ⟨_, rfl, ?_⟩
  cases c1 with
  | true => exact iteT (h2 rfl _ h)
  | false => exact iteF h
/-- blanks and tokens put together -/
def sp : List (Nat × List Nat) → List Nat
  | [] => []
  | (g, t) :: r => List.replicate g 32 ++ (t ++ sp r)
theorem sp_app : ∀ a b, sp (a ++ b) = sp a ++ sp b
  | [], b => rfl
  | (g, t) :: r, b => by
    show List.replicate g 32 ++ (t ++ sp (r ++ b)) = _
    rw [sp_app r b]
    simp [sp]
def stL : Nat → List (Nat × List Nat) → List Nat
  | _, [] => []
  | n, (g, t) :: r => (n + g) :: stL (n + g + t.length) r
theorem stL_app : ∀ (a b : List (Nat × List Nat)) (n : Nat), stL n (a ++ b) = stL n a ++ stL (n + (sp a).length) b
  | [], b, n => rfl
  | (g, t) :: r, b, n => by
    show (n + g) :: stL (n + g + t.length) (r ++ b) = _
    rw [stL_app r b]
    simp [stL, sp, Nat.add_assoc]
theorem stL_len : ∀ (a : List (Nat × List Nat)) (n : Nat), (stL n a).length = a.length
  | [], _ => rfl
  | (_, _) :: r, n => by simp [stL, stL_len r]
def SG : List (List Nat) := [[40], [41], [44], [45, 62]]
/-- the blanks that two tokens want -/
def least (ts : List (List Nat)) (k : Nat) : Nat := if (decide (0 < k) && (decide (ts.getD k [] ∉ SG) && decide (ts.getD (k - 1) [] ∉ SG))) = true then 1 else 0
structure Gaps (ts : List (List Nat)) (P : List (Nat × List Nat)) : Prop where
  toks : P.map (·.2) = ts.take P.length
  le : P.length ≤ ts.length
  gap : ∀ j p, P[j]? = some p → least ts j ≤ p.1 ∧ p.1 ≤ 3
theorem Gaps.snoc {ts : List (List Nat)} {P : List (Nat × List Nat)} {g : Nat} {t : List Nat} (h : Gaps ts P) (ht : ts[P.length]? = some t) (h1 : least ts P.length ≤ g) (h2 : g ≤ 3) : Gaps ts (P ++ [(g, t)]) := by
  have hl := (List.getElem?_eq_some_iff.mp ht).1
  refine ⟨?_, by simp; omega, fun j p hp => ?_⟩
  · rw [List.map_append, h.toks, List.length_append]
    simp only [List.length_cons, List.length_nil, List.map_cons, List.map_nil]
    rw [take_snoc ht]
  · by_cases hj : j < P.length
    · rw [List.getElem?_append_left hj] at hp
      exact h.gap j p hp
    · have hj2 : j = P.length := by
        have := (List.getElem?_eq_some_iff.mp hp).1
        simp at this
        omega
      subst hj2
      rw [List.getElem?_append_right (Nat.le_refl _)] at hp
      simp at hp
      subst hp
      exact ⟨h1, h2⟩
theorem sp_len {ts : List (List Nat)} (hts : ∀ t ∈ ts, t.length ≤ 100) {P : List (Nat × List Nat)} (h : Gaps ts P) : (sp P).length ≤ 103 * P.length := by
  have m : ∀ p ∈ P, p.1 ≤ 3 ∧ p.2.length ≤ 100 := fun p hp => by
    obtain ⟨j, hj⟩ := List.mem_iff_getElem?.mp hp
    refine ⟨(h.gap j p hj).2, hts _ ?_⟩
    have : p.2 ∈ P.map (·.2) := List.mem_map.mpr ⟨p, hp, rfl⟩
    rw [h.toks] at this
    exact List.mem_of_mem_take this
  clear h
  induction P with
  | nil => simp [sp]
  | cons p r ih =>
    have h1 := m p (by simp)
    have h2 := ih fun q hq => m q (List.mem_cons_of_mem _ hq)
    obtain ⟨g, t⟩ := p
    simp only [sp, List.length_append, List.length_replicate, List.length_cons] at *
    omega
def spSpelled (K : PySem.W.Frag) : Sp := fun vs H Q _ => ∃ (a b t : Addr) (ts : List (List Nat)), vs = [.ref a, .ref t] ∧ SrcAt H a b ∧ H t = some (.lst (stV ts)) ∧ t ≠ a ∧ ts.length ≤ 30 ∧ (∀ t ∈ ts, t.length ≤ 100) ∧
  ∀ P gl r sl H', Gaps ts P → P.length = ts.length → gl ≤ 3 → H' r = some (.tup [.str (tx (sp P ++ List.replicate gl 32)), .ref sl]) → H' sl = some (.lst ((stL 0 P).map fun n => .int (n : Nat))) → H sl = none → SrcAt H' a b → But a H H' → Q (.ref r) H'
section
variable {w : World} {K : PySem.W.Frag} {mg : Str → Option Value} {base : Heap}
theorem ok_spelled (T : Txt K mg) : FnOk Pg w K mg base CX0 3 (aLawSpelled K) (fdLawSpelled K) PLawSpelled (spSpelled K) := by
  refine (fLawSpelled T).ok0 scLawSpelled (fun vs H Q E h => ?_) (fun cdv A outer s H vs Q E hr h => ?_)
  · obtain ⟨a, b, t, ts, rfl, _⟩ := h
    rfl
  · obtain ⟨a, b, t, ts, rfl, hs, ht, hta, hl, hts, k⟩ := h
    have hr2 : Room 2 _ := hr.mono (by decide)
    refine ⟨_, (pss_cons (ps_set (i := 2) scLawSpelled.nd rfl (Or.inl rfl) pe_str)
(pss_cons (ps_set (i := 3) scLawSpelled.nd rfl (Or.inl rfl) (pe_lst pa_nil))
(pss_cons (ps_set (i := 4) scLawSpelled.nd rfl (Or.inl rfl) (pe_tup (pa_cons pe_str (pa_cons pe_str (pa_cons pe_str (pa_cons pe_str pa_nil))))))
(pss_cons (ps_for PassesOwn.never rfl (pi_range1 (by rfl) (nRange T) (pa_cons (pe_callB call_len_seq (by rfl) (nLen T) PySem.boot_len (pa_cons (pv 1) pa_nil)) pa_nil)) (pg_name (i := 5) scLawSpelled.nd rfl (Or.inl rfl))
(pss_cons (ps_set (i := 6) scLawSpelled.nd rfl (Or.inl rfl) (pe_callTy call_int1 (by rfl) (nInt T) (by decide +kernel) (pa_cons (pe_and (pe_cmpR op_gt (pv 5) pe_int (by rfl)) (pe_and (pe_cmpR op_notIn_seq (pe_ix ix_list (pv 1) (pv 5) (fun _ _ => rfl)) (pv 4) (by rfl)) (pe_one (pe_cmpR op_notIn_seq (pe_ix ix_list (pv 1) (pe_op op_sub (pv 5) pe_int) (fun _ _ => rfl)) (pv 4) (by rfl))))) pa_nil)))
(pss_cons (ps_set (i := 2) scLawSpelled.nd rfl (Or.inl rfl) (pe_op op_add_str (pv 2) (pe_call (ok_lblanks T) hr2 rfl (gLawBlanks T) (fLawBlanks T).kp (bLawBlanks T) .nil pass0 (pa_cons (pv 0) (pa_cons (pv 6) pa_nil)))))
(pss_cons (ps_expr (pe_bm PySem.F.plainAttrs_list PySem.F.slot_list_append PySem.F.type_list_append mt_append (pv 3) (pa_cons (pe_callB call_len_str (by rfl) (nLen T) PySem.boot_len (pa_cons (pv 2) pa_nil)) pa_nil)))
(pss_one (ps_set (i := 2) scLawSpelled.nd rfl (Or.inl rfl) (pe_op op_add_str (pv 2) (pe_ix ix_list (pv 1) (pv 5) (fun _ _ => rfl)))))))))
(pss_one (ps_ret (pe_tup (pa_cons (pe_op op_add_str (pv 2) (pe_call (ok_lblanks T) hr2 rfl (gLawBlanks T) (fLawBlanks T).kp (bLawBlanks T) .nil pass0 (pa_cons (pv 0) (pa_cons pe_int pa_nil)))) (pa_cons (pv 3) pa_nil))))))))), ?_⟩
    refine ⟨szL (n := 0) rfl (by decide), fun sl hsl => ?_⟩
    refine ⟨szL (n := 4) rfl (by decide), fun sg hsg => ?_⟩
    have eSG : ([.str "(", .str ")", .str ",", .str "->"] : List V) = SG.map fun w => V.str (tx w) := by decide +kernel
    rw [eSG]
    obtain ⟨hsa, hsb⟩ := hs.ap hsl
    have hsgs : sg ≠ sl := Ne.symm (ne_of_none (upd_same) hsg)
    have S1 : SrcAt (L2.upd (L2.upd H sl (.lst [])) sg (.tup (SG.map fun w => V.str (tx w)))) a b := (hs.new hsl).new hsg
    have B1 : But a H (L2.upd (L2.upd H sl (.lst [])) sg (.tup (SG.map fun w => V.str (tx w)))) := (But.new hsl).trans (But.new hsg)
    have hga : sg ≠ a := ((hs.new hsl (o := .lst [])).ap hsg).1
    have G1 : (L2.upd (L2.upd H sl (.lst [])) sg (.tup (SG.map fun w => V.str (tx w)))) sg = some (.tup (SG.map fun w => V.str (tx w))) := upd_same
    have L1 : (L2.upd (L2.upd H sl (.lst [])) sg (.tup (SG.map fun w => V.str (tx w)))) sl = some (.lst []) := by rw [upd_ne (Ne.symm hsgs), upd_same]
    generalize (L2.upd (L2.upd H sl (.lst [])) sg (.tup (SG.map fun w => V.str (tx w)))) = H1 at *
    have T1 := B1 _ _ ht hta
    refine ⟨_, rfl, t, _, rfl, .inl (SqL.of T1), ?_⟩
    refine ⟨_, rfl, by rw [stV_len]; omega, by rw [stV_len]; omega, for_range (fun i σ H2 => ∃ (P : List (Nat × List Nat)) (v1 v2 : Option V), σ = [some (.ref a), some (.ref t), some (.str (tx (sp P))), some (.ref sl), some (.ref sg), v1, v2] ∧ P.length = i ∧ Gaps ts P ∧
      H2 sl = some (.lst ((stL 0 P).map fun n => .int (n : Nat))) ∧ H2 sg = some (.tup (SG.map fun w => V.str (tx w))) ∧ SrcAt H2 a b ∧ But a H H2)
      ⟨[], none, none, by rw [show (V.str (Str.ofString "")) = V.str (tx []) from congrArg V.str z_e]; rfl, rfl, ⟨rfl, Nat.zero_le _, fun j p h => by simp at h⟩, L1, G1, S1, B1⟩ ?_ ?_⟩
    · rintro i σ H2 hi ⟨P, v1, v2, rfl, lP, gP, L2', G2, S2, B2⟩
      rw [stV_len] at hi
      have hi' : i < ts.length := by omega
      have T2 := B2 _ _ ht hta
      have hsla : sl ≠ a := hsa
      obtain ⟨tk, htk⟩ : ∃ tk, ts[i]? = some tk := ⟨ts[i], List.getElem?_eq_getElem hi'⟩
      have gk : ts.getD i [] = tk := by rw [List.getD_eq_getElem?_getD, htk]; rfl
      have htkl : tk.length ≤ 100 := hts _ (List.mem_of_getElem? htk)
      have at_i : atI (stV ts) (0 + (i : Int)) = some (.str (tx tk)) := by
        rw [Int.zero_add]
        exact atI_nat (by rw [stV, List.getElem?_map, htk]; rfl)
      have hc1 : decide ((0 : Int) < 0 + (i : Int)) = decide (0 < i) := decide_eq_decide.mpr (by omega)
      refine andV (c1 := decide (0 < i)) (c2 := (decide (tk ∉ SG) && decide (ts.getD (i - 1) [] ∉ SG))) (fun Q q => ⟨_, rfl, _, _, rfl, rfl, by rw [← hc1] at q; exact q⟩) (fun h => ?_) ?_
      · have h0 : 0 < i := of_decide_eq_true h
        refine fun Q q => andV (c1 := decide (tk ∉ SG)) (c2 := decide (ts.getD (i - 1) [] ∉ SG)) (fun Q q => ⟨_, rfl, _, rfl, t, _, _, _, rfl, rfl, SqL.of T2, at_i, _, rfl, sg, _, rfl, .inr (SqT.of G2), rfl, flat_strs SG, ?_⟩)
          (fun _ Q q => ⟨_, rfl, _, rfl, _, _, rfl, rfl, t, _, _, .str (tx (ts.getD (i - 1) [])), rfl, rfl, SqL.of T2, ?_, _, rfl, sg, _, rfl, .inr (SqT.of G2), rfl, flat_strs SG, ?_⟩) q
        · rw [in_strs, if_pos rfl, ← decide_not]
          exact q
        · have e1 : (0 + (i : Int) - 1) = ((i - 1 : Nat) : Int) := by omega
          rw [e1]
          have h1 : i - 1 < ts.length := by omega
          exact atI_nat (by rw [stV, List.getElem?_map, List.getD_eq_getElem?_getD, List.getElem?_eq_getElem h1]; rfl)
        · rw [in_strs, if_pos rfl, ← decide_not]
          exact q
      refine .inr ⟨_, rfl, ?_⟩
      have hle : (if (decide (0 < i) && (decide (tk ∉ SG) && decide (ts.getD (i - 1) [] ∉ SG))) = true then (1 : Int) else 0) = ((least ts i : Nat) : Int) := by
        unfold least
        rw [gk]
        split <;> rfl
      have hle1 : least ts i ≤ 1 := by
        unfold least
        split <;> omega
      refine ⟨_, rfl, _, rfl, _, rfl, a, b, least ts i, congrArg (fun z => [V.ref a, V.int z]) hle, S2, hle1, fun g H3 g0 g1 S3 B3 => ?_⟩
      have spl := sp_len hts gP
      have hi30 : P.length ≤ 30 := by omega
      refine ⟨_, _, rfl, rfl, by rw [tx_len, tx_len, sizeLine_eq, List.length_replicate]; omega, ?_⟩
      rw [tx_app]
      have L3 := B3 _ _ L2' hsa
      refine ⟨_, rfl, .inl ⟨rfl, _, SqL.of L3⟩, _, rfl, _, rfl, by rw [tx_len, sizeLine_eq, List.length_append, List.length_replicate]; omega, sl, _, _, rfl, rfl, L3, by rw [List.length_map, stL_len, sizeLine_eq]; omega, ?_⟩
      rw [tx_len]
      have T4 := B3 _ _ T2 hta
      have hts4 : t ≠ sl := ne_of_none ht hsl
      refine ⟨_, rfl, _, rfl, _, rfl, t, _, _, _, rfl, rfl, SqL.of (by rw [upd_ne hts4]; exact T4), at_i, ?_⟩
      refine ⟨_, _, rfl, rfl, by rw [tx_len, tx_len, sizeLine_eq, List.length_append, List.length_replicate]; omega, ?_⟩
      rw [tx_app]
      have esp : sp (P ++ [(g, tk)]) = sp P ++ List.replicate g 32 ++ tk := by rw [sp_app]; simp [sp]
      refine ⟨P ++ [(g, tk)], _, _, by rw [esp]; rfl, by simp [lP], gP.snoc (by rw [lP]; exact htk) (by rw [lP]; exact g0) g1, ?_, ?_, S3.putL hsa hsb, (B2.trans B3).put hsl⟩
      · rw [upd_same, stL_app]
        simp [stL]
      · rw [upd_ne hsgs]
        exact B3 _ _ G2 hga
    rintro σ H2 ⟨P, v1, v2, rfl, lP, gP, L2', G2, S2, B2⟩
    have lP' : P.length = ts.length := by rw [lP, stV_len]; omega
    have spl := sp_len hts gP
    have hi30 : P.length ≤ 30 := by omega
    refine ⟨_, rfl, _, rfl, a, b, 0, rfl, S2, by decide, fun g H3 g0 g1 S3 B3 => ?_⟩
    refine ⟨_, _, rfl, rfl, by rw [tx_len, tx_len, sizeLine_eq, List.length_replicate]; omega, ?_⟩
    rw [tx_app]
    refine ⟨_, rfl, szL (n := 2) rfl (by decide), fun r hr' => ?_⟩
    have L3 := B3 _ _ L2' hsa
    exact k P g r sl _ gP lP' g1 upd_same (by rw [upd_ne (ne_of_none L3 hr')]; exact L3) hsl (S3.new hr') ((B2.trans B3).trans (But.new hr'))
end
end K29
end

section
set_option Elab.async false
set_option linter.all false
set_option maxRecDepth 100000
set_option maxHeartbeats 4000000
/-! The plain law: a row of tokens is read as it was spelled; a broken one fails where it is broken. -/
namespace K29
open PySem PySem.Spec PyProof.Rows L2 XT
abbrev RX := Except (List Nat) (CRow × List Nat)
/-- where the reading stands -/
inductive Sg where
  | word | num | name (n : Nat) | opn (n : Nat) (nm : List Nat) | vl (n : Nat) (nm : List Nat) (acc : List (List Nat)) | com (n : Nat) (nm : List Nat) (acc : List (List Nat))
  | to (n : Nat) (nm : List Nat) (acc : List (List Nat)) | ans (n : Nat) (nm : List Nat) (acc : List (List Nat)) | fin (x : CRow)
def kAns (m : Bool) (n : Nat) (nm : List Nat) (vs : List (List Nat)) : List Nat → RX := fun r => seqP (pAns m r) fun a r8 => pEnd ⟨m, n, nm, vs, a⟩ (pB r8)
def kTo (m : Bool) (n : Nat) (nm : List Nat) (vs : List (List Nat)) : List Nat → RX := fun r => seqP (pTake [45, 62] r) fun _ r7 => kAns m n nm vs (pB r7)
def kVal (m : Bool) (n : Nat) (nm : List Nat) (acc : List (List Nat)) : List Nat → RX := fun r => match pVals (r.length + 1) acc r with
  | .error e => .error e
  | .ok (vs, r2) => match pTake [41] r2 with
    | .error e => .error e
    | .ok (_, r3) => kTo m n nm vs (pB r3)
def kCom (m : Bool) (n : Nat) (nm : List Nat) (acc : List (List Nat)) : List Nat → RX := fun r => match pWord great r with
  | .error e => .error e
  | .ok (w, r3) => kVal m n nm (acc ++ [w]) (pB r3)
def kOpn (m : Bool) (n : Nat) (nm : List Nat) : List Nat → RX := fun r => seqP (pHanded r) fun vs r6 => kTo m n nm vs (pB r6)
def kName (m : Bool) (n : Nat) : List Nat → RX := fun r => seqP (pWord (if m then great else small) r) fun x r5 => kOpn m n x (pB r5)
def kNum (m : Bool) : List Nat → RX := fun r => seqP (pFig r) fun n r3 => seqP (pGap r3) fun _ r4 => kName m n r4
def Sg.run (m : Bool) : Sg → List Nat → RX
  | .word => pRowM m
  | .num => kNum m
  | .name n => kName m n
  | .opn n nm => kOpn m n nm
  | .vl n nm acc => kVal m n nm acc
  | .com n nm acc => kCom m n nm acc
  | .to n nm vs => kTo m n nm vs
  | .ans n nm vs => kAns m n nm vs
  | .fin x => pEnd x
theorem run_word (m : Bool) (r : List Nat) : pRowM m r = seqP (pTake (partL m) r) fun _ r1 => seqP (pGap r1) fun _ r2 => kNum m r2 := rfl
def Sg.step (m : Bool) : Sg → List Nat → Sg
  | .word, _ => .num
  | .num, t => .name (val t)
  | .name n, t => .opn n t
  | .opn n nm, _ => .vl n nm []
  | .vl n nm acc, t => if t = [41] then .to n nm acc else if acc = [] then .vl n nm [t] else .com n nm acc
  | .com n nm acc, t => .vl n nm (acc ++ [t])
  | .to n nm vs, _ => .ans n nm vs
  | .ans n nm vs, t => .fin ⟨m, n, nm, vs, if m then .inl (val t) else .inr t⟩
  | .fin x, _ => .fin x
def TokOk (m : Bool) : Sg → List Nat → Prop
  | .word, t => t = partL m
  | .num, t => ∃ n, t = TL.numL n
  | .name _, t => NameOk m t
  | .opn _ _, t => t = [40]
  | .vl _ _ acc, t => t = [41] ∨ (acc = [] ∧ NameOk true t) ∨ (acc ≠ [] ∧ t = [44])
  | .com _ _ _, t => NameOk true t
  | .to _ _ _, t => t = [45, 62]
  | .ans _ _ _, t => if m then ∃ n, t = TL.numL n else NameOk true t
  | .fin _, _ => False
/-! ### signs -/
def hd (p : Nat → Bool) (f : List Nat) : Prop := ∀ c, f.head? = some c → p c = true
theorem hd_nil (p : Nat → Bool) : hd p [] := fun _ h => by cases h
theorem hd_cons {p : Nat → Bool} {c : Nat} {r : List Nat} : hd p (c :: r) ↔ p c = true := ⟨fun h => h c rfl, fun h d e => by cases e; exact h⟩
theorem hd_app {p : Nat → Bool} {c : Nat} {r f : List Nat} (h : p c = true) : hd p ((c :: r) ++ f) := hd_cons.mpr h
def nb (c : Nat) : Bool := decide (c ≠ 32)
def ni (c : Nat) : Bool := !inRow c
theorem takeW {p : Nat → Bool} : ∀ {t f : List Nat}, t.all p = true → hd (fun c => !p c) f → (t ++ f).takeWhile p = t ∧ (t ++ f).dropWhile p = f
  | [], f, _, h => by
    cases f with
    | nil => exact ⟨rfl, rfl⟩
    | cons c r =>
      have h1 := hd_cons.mp h
      have h2 : p c = false := by simpa using h1
      simp [List.takeWhile_cons, List.dropWhile_cons, h2]
  | c :: t, f, ha, h => by
    rw [List.all_cons, Bool.and_eq_true] at ha
    have ih := takeW ha.2 h
    simp [List.takeWhile_cons, List.dropWhile_cons, ha.1, ih.1, ih.2]
theorem pB_run (g : Nat) {f : List Nat} (h : hd nb f) : pB (List.replicate g 32 ++ f) = f := by
  induction g with
  | zero =>
    rw [List.replicate_zero, List.nil_append]
    cases f with
    | nil => rfl
    | cons c r => exact pB_ne (by have := hd_cons.mp h; simpa [nb] using this)
  | succ g ih => rw [List.replicate_succ, List.cons_append, pB_sp]; exact ih
theorem pB_self {f : List Nat} (h : hd nb f) : pB f = f := pB_run 0 h
theorem pGap_run {g : Nat} (hg : 1 ≤ g) {f : List Nat} (h : hd nb f) : pGap (List.replicate g 32 ++ f) = .ok ((), f) := by
  obtain ⟨g', rfl⟩ : ∃ g', g = g' + 1 := ⟨g - 1, by omega⟩
  rw [List.replicate_succ, List.cons_append]
  show Except.ok ((), pB (List.replicate g' 32 ++ f)) = _
  rw [pB_run g' h]
theorem pGap_no {f : List Nat} (h : hd nb f) : pGap f = .error f := by
  cases f with
  | nil => rfl
  | cons c r =>
    have h1 : c ≠ 32 := by have := hd_cons.mp h; simpa [nb] using this
    unfold pGap
    split
    · rename_i heq
      exact absurd (by cases heq; rfl) h1
    · rfl
theorem pTake_app : ∀ (t f : List Nat), pTake t (t ++ f) = .ok ((), f)
  | [], f => rfl
  | c :: t, f => by
    show (if c = c then pTake t (t ++ f) else _) = _
    rw [if_pos rfl, pTake_app t f]
/-- a part of a word, then what is no sign of it -/
theorem pTake_part : ∀ (t u f : List Nat), t = u ++ f.take 0 → True := fun _ _ _ _ => trivial
theorem pTake_cut : ∀ (u v f : List Nat), v ≠ [] → hd (fun c => decide (c ∉ v)) f → pTake (u ++ v) (u ++ f) = .error f
  | [], c :: v, f, _, h => by
    cases f with
    | nil => rfl
    | cons d r =>
      have h1 : d ∉ c :: v := by have := hd_cons.mp h; simpa using this
      have h2 : ¬ d = c := fun e => h1 (by simp [e])
      show (if d = c then _ else _) = _
      rw [if_neg h2]
  | a :: u, v, f, hv, h => by
    show (if a = a then pTake (u ++ v) (u ++ f) else _) = _
    rw [if_pos rfl, pTake_cut u v f hv h]
theorem small_row {c : Nat} (h : small c = true) : inRow c = true := by simp [inRow, h]
theorem great_row {c : Nat} (h : great c = true) : inRow c = true := by simp [inRow, h]
theorem fig_row {c : Nat} (h : fig c = true) : inRow c = true := by simp [inRow, h]
theorem NameOk.all {g : Bool} {t : List Nat} (h : NameOk g t) : t.all inRow = true := by
  obtain ⟨c, r, rfl, h1, h2⟩ := h.pre
  rw [List.all_cons, Bool.and_eq_true]
  refine ⟨?_, h2⟩
  cases g with
  | true => exact great_row h1
  | false => exact small_row h1
theorem NameOk.wd {g : Bool} {t : List Nat} (h : NameOk g t) : t ∉ WD := fun e => h.now (List.mem_append_left _ e)
theorem NameOk.ne {g : Bool} {t : List Nat} (h : NameOk g t) : t ≠ [] := by
  obtain ⟨c, r, rfl, _⟩ := h.pre
  simp
/-- reading a name -/
theorem pWord_name {g : Bool} {t f : List Nat} (h : NameOk g t) (hf : hd ni f) : pWord (if g then great else small) (t ++ f) = .ok (t, f) := by
  obtain ⟨h1, h2⟩ := takeW (f := f) h.all hf
  have hwd := h.wd
  obtain ⟨c, r, rfl, hc, _⟩ := h.pre
  have e : (if g = true then great else small) c = true := by cases g <;> exact hc
  rw [List.cons_append] at h1 h2 ⊢
  rw [pWord_cons, if_pos e, h1, h2, if_neg hwd]
theorem pWord_no {fits : Nat → Bool} {f : List Nat} (h : hd (fun c => !fits c) f) : pWord fits f = .error f := by
  cases f with
  | nil => rfl
  | cons c r =>
    have h1 : fits c = false := by have := hd_cons.mp h; simpa using this
    rw [pWord_cons, if_neg (by rw [h1]; simp)]
/-- reading a number -/
theorem numL_fig (n : Nat) : (TL.numL n).all fig = true := by
  rw [List.all_eq_true]
  intro c hc
  have := TL.numL_digits n c hc
  simp [fig]
  omega
theorem numL_head (n : Nat) : TL.numL n = [48] ∨ ∃ c r, TL.numL n = c :: r ∧ c ≠ 48 ∧ fig c = true := by
  induction n using Nat.strongRecOn with
  | _ n ih =>
    by_cases h : n < 10
    · rw [TL.numL_lt h]
      by_cases h0 : n = 0
      · subst h0; exact .inl rfl
      · exact .inr ⟨48 + n, [], rfl, by omega, by simp [fig]; omega⟩
    · rw [TL.numL_step (by omega)]
      rcases ih (n / 10) (by omega) with e | ⟨c, r, e, h1, h2⟩
      · have v := TL.numL_val (n / 10)
        rw [e] at v
        have v2 : n / 10 = 0 := by rw [← v]; rfl
        omega
      · exact .inr ⟨c, r ++ [48 + n % 10], by rw [e]; rfl, h1, h2⟩
theorem val_num (n : Nat) : val (TL.numL n) = n := TL.numL_val n
theorem numL_ne' (n : Nat) : TL.numL n ≠ [] := TL.numL_ne n
theorem pFig_num2 (n : Nat) {f : List Nat} (hf2 : hd (fun c => !fig c) f) : pFig (TL.numL n ++ f) = .ok (n, f) := by
  obtain ⟨h1, h2⟩ := takeW (f := f) (numL_fig n) hf2
  have hv := val_num n
  rcases numL_head n with e | ⟨c, r, e, hc, hfc⟩
  · rw [e] at hv ⊢
    have e2 : pFig (48 :: f) = .ok (0, f) := rfl
    rw [show ([48] ++ f) = 48 :: f from rfl, e2, ← hv]
    rfl
  · rw [e] at h1 h2 hv ⊢
    rw [List.cons_append] at h1 h2 ⊢
    show (if c = 48 then _ else if fig c then _ else _) = _
    rw [if_neg hc, if_pos hfc, h1, h2, hv]
theorem pFig_num (n : Nat) {f : List Nat} (hf : hd ni f) : pFig (TL.numL n ++ f) = .ok (n, f) := pFig_num2 n fun c e => by
  have := hf c e
  cases h : fig c with
  | false => simp [h]
  | true => simp [ni, fig_row h] at this
theorem pFig_no {f : List Nat} (h : hd (fun c => !fig c) f) : pFig f = .error f := by
  cases f with
  | nil => rfl
  | cons c r =>
    have h1 : fig c = false := by have := hd_cons.mp h; simpa using this
    have h2 : ¬ c = 48 := by intro e; subst e; simp [fig] at h1
    show (if c = 48 then _ else if fig c then _ else _) = _
    rw [if_neg h2, if_neg (by rw [h1]; simp)]
/-! ### the values -/
theorem pVals_stop (n : Nat) (acc : List (List Nat)) (r : List Nat) : pVals (n + 1) acc (41 :: r) = .ok (acc, 41 :: r) := by
  unfold pVals
  rw [if_pos (show (41 :: r).head? = some 41 from rfl)]
theorem pVals_fuel : ∀ (n n' : Nat) (acc : List (List Nat)) (r : List Nat), r.length < n → r.length < n' → pVals n acc r = pVals n' acc r
  | 0, _, _, _, h, _ => absurd h (Nat.not_lt_zero _)
  | _ + 1, 0, _, _, _, h => absurd h (Nat.not_lt_zero _)
  | n + 1, n' + 1, acc, r, h, h' => by
    unfold pVals
    by_cases h41 : r.head? = some 41
    · rw [if_pos h41, if_pos h41]
    · rw [if_neg h41, if_neg h41]
      have key : ∀ r2 : List Nat, r2.length ≤ r.length → (match pWord great r2 with | .error e => Except.error e | .ok (w, r3) => pVals n (acc ++ [w]) (pB r3)) = (match pWord great r2 with | .error e => Except.error e | .ok (w, r3) => pVals n' (acc ++ [w]) (pB r3)) := by
        intro r2 h2
        cases e : pWord great r2 with
        | error x => rfl
        | ok p =>
          obtain ⟨w, r3⟩ := p
          have l1 := pWord_less (fun c h => great_row h) e
          have l2 := pB_le r3
          exact pVals_fuel n n' _ _ (by omega) (by omega)
      by_cases ha : acc = []
      · rw [if_pos ha]
        exact key r (Nat.le_refl _)
      · rw [if_neg ha]
        cases e : pTake [44] r with
        | error x => rfl
        | ok p =>
          obtain ⟨⟨⟩, r1⟩ := p
          have l1 := pTake_le e
          have l2 := pB_le r1
          exact key (pB r1) (by omega)
theorem kVal_stop (m : Bool) (n : Nat) (nm : List Nat) (acc : List (List Nat)) (r : List Nat) : kVal m n nm acc (41 :: r) = kTo m n nm acc (pB r) := by
  unfold kVal
  rw [pVals_stop]
  rfl
theorem kVal_nil (m : Bool) (n : Nat) (nm : List Nat) {r : List Nat} (h : r.head? ≠ some 41) : kVal m n nm [] r = kCom m n nm [] r := by
  unfold kVal kCom
  have e0 : pVals (r.length + 1) [] r = (match pWord great r with | .error e => Except.error e | .ok (w, r3) => pVals r.length [w] (pB r3)) := by
    rw [pVals, if_neg h, if_pos rfl]
    rfl
  rw [e0]
  cases e : pWord great r with
  | error x => rfl
  | ok p =>
    obtain ⟨w, r3⟩ := p
    have l1 := pWord_less (fun c h => great_row h) e
    have l2 := pB_le r3
    show _ = kVal m n nm [w] (pB r3)
    unfold kVal
    show (match pVals r.length [w] (pB r3) with | .error e => _ | .ok (vs, r2) => _) = _
    rw [pVals_fuel r.length ((pB r3).length + 1) [w] (pB r3) (by omega) (by omega)]
theorem kVal_com (m : Bool) (n : Nat) (nm : List Nat) {acc : List (List Nat)} (ha : acc ≠ []) (r : List Nat) : kVal m n nm acc (44 :: r) = kCom m n nm acc (pB r) := by
  unfold kVal kCom
  have e0 : pVals ((44 :: r).length + 1) acc (44 :: r) = (match pWord great (pB r) with | .error e => Except.error e | .ok (w, r3) => pVals (44 :: r).length (acc ++ [w]) (pB r3)) := by
    rw [pVals, if_neg (by simp), if_neg ha]
    rfl
  rw [e0]
  cases e : pWord great (pB r) with
  | error x => rfl
  | ok p =>
    obtain ⟨w, r3⟩ := p
    have l1 := pWord_less (fun c h => great_row h) e
    have l2 := pB_le r3
    have l3 := pB_le r
    show _ = kVal m n nm (acc ++ [w]) (pB r3)
    unfold kVal
    show (match pVals (44 :: r).length (acc ++ [w]) (pB r3) with | .error e => _ | .ok (vs, r2) => _) = _
    rw [pVals_fuel (44 :: r).length ((pB r3).length + 1) (acc ++ [w]) (pB r3) (by simp; omega) (by omega)]
theorem kVal_no (m : Bool) (n : Nat) (nm : List Nat) {acc : List (List Nat)} (ha : acc ≠ []) {r : List Nat} (h : hd (fun c => decide (c ≠ 41) && decide (c ≠ 44)) r) : kVal m n nm acc r = .error r := by
  unfold kVal
  have h1 : r.head? ≠ some 41 := fun e => by have := h _ e; simp at this
  have h2 : pTake [44] r = .error r := by
    cases r with
    | nil => rfl
    | cons c r =>
      have := hd_cons.mp h
      simp at this
      show (if c = 44 then _ else _) = _
      rw [if_neg this.2]
  rw [pVals, if_neg h1, if_neg ha, h2]
theorem kOpn_run (m : Bool) (n : Nat) (nm r : List Nat) : kOpn m n nm (40 :: r) = kVal m n nm [] (pB r) := by
  unfold kOpn kVal pHanded
  have e1 : pTake [40] (40 :: r) = .ok ((), r) := rfl
  rw [e1]
  show seqP (match pVals ((40 :: r).length + 1) [] (pB r) with | .error e => _ | .ok (vs, r2) => _) _ = _
  have l := pB_le r
  rw [pVals_fuel ((40 :: r).length + 1) ((pB r).length + 1) [] (pB r) (by simp; omega) (by omega)]
  cases e : pVals ((pB r).length + 1) [] (pB r) with
  | error x => rfl
  | ok p =>
    obtain ⟨vs, r2⟩ := p
    show seqP (match pTake [41] r2 with | .error e => _ | .ok (_, r3) => _) _ = _
    cases e2 : pTake [41] r2 with
    | error x => simp [seqP, e2]
    | ok q =>
      obtain ⟨⟨⟩, r3⟩ := q
      simp [seqP, e2]
theorem kOpn_no (m : Bool) (n : Nat) (nm : List Nat) {r : List Nat} (h : hd (fun c => decide (c ≠ 40)) r) : kOpn m n nm r = .error r := by
  have h2 : pTake [40] r = .error r := by
    cases r with
    | nil => rfl
    | cons c r =>
      have := hd_cons.mp h
      simp at this
      show (if c = 40 then _ else _) = _
      rw [if_neg this]
  unfold kOpn pHanded
  rw [h2]
  rfl
end K29
end

section
set_option Elab.async false
set_option linter.all false
set_option maxRecDepth 100000
set_option maxHeartbeats 4000000
namespace K29
open PySem PySem.Spec PyProof.Rows L2 XT
theorem gap_ni {g : Nat} {f : List Nat} (h : g = 0 → hd ni f) : hd ni (List.replicate g 32 ++ f) := by
  cases g with
  | zero => rw [List.replicate_zero, List.nil_append]; exact h rfl
  | succ g => rw [List.replicate_succ, List.cons_append]; exact hd_cons.mpr rfl
theorem NameOk.hd {g : Bool} {t : List Nat} (h : NameOk g t) : hd inRow t := by
  have ha := h.all
  cases t with
  | nil => exact hd_nil _
  | cons c r =>
    rw [List.all_cons, Bool.and_eq_true] at ha
    exact hd_cons.mpr ha.1
theorem num_hd (n : Nat) : hd inRow (TL.numL n) := by
  have ha := numL_fig n
  cases e : TL.numL n with
  | nil => exact hd_nil _
  | cons c r =>
    rw [e, List.all_cons, Bool.and_eq_true] at ha
    exact hd_cons.mpr (fig_row ha.1)
theorem name_ne41 {g : Bool} {t : List Nat} (h : NameOk g t) (F : List Nat) : (t ++ F).head? ≠ some 41 := by
  have h1 := h.hd
  have h2 := h.ne
  cases t with
  | nil => exact absurd rfl h2
  | cons c r =>
    have h3 := hd_cons.mp h1
    intro e
    have : c = 41 := by simpa using e
    subst this
    simp [inRow, small, great, fig] at h3
theorem name_not {g : Bool} {t : List Nat} (h : NameOk g t) {c : Nat} (hc : inRow c = false) : t ≠ [c] := by
  intro e
  have h1 := h.hd
  rw [e] at h1
  rw [hd_cons.mp h1] at hc
  cases hc
/-- a token and its blanks -/
theorem step_ok {m : Bool} {s : Sg} {t f : List Nat} {g : Nat} (ht : TokOk m s t) (hf : hd nb f) (hg : s = .word ∨ s = .num → 1 ≤ g) (hn : g = 0 → hd inRow t → hd ni f) : s.run m (t ++ (List.replicate g 32 ++ f)) = (s.step m t).run m f := by
  cases s with
  | word =>
    obtain rfl : t = partL m := ht
    show pRowM m _ = kNum m f
    rw [run_word, seqP_ok (pTake_app _ _), seqP_ok (pGap_run (hg (.inl rfl)) hf)]
  | num =>
    obtain ⟨n, rfl⟩ : ∃ n, t = TL.numL n := ht
    show kNum m _ = kName m (val (TL.numL n)) f
    have g1 := hg (.inr rfl)
    unfold kNum
    rw [seqP_ok (pFig_num n (gap_ni fun e => by omega)), seqP_ok (pGap_run g1 hf), val_num]
  | name n =>
    have ht' : NameOk m t := ht
    show kName m n _ = kOpn m n t f
    unfold kName
    rw [seqP_ok (pWord_name ht' (gap_ni fun e => hn e ht'.hd)), pB_run g hf]
  | opn n nm =>
    obtain rfl : t = [40] := ht
    show kOpn m n nm (40 :: (List.replicate g 32 ++ f)) = kVal m n nm [] f
    rw [kOpn_run, pB_run g hf]
  | vl n nm acc =>
    rcases (show t = [41] ∨ (acc = [] ∧ NameOk true t) ∨ (acc ≠ [] ∧ t = [44]) from ht) with rfl | ⟨rfl, h⟩ | ⟨ha, rfl⟩
    · show kVal m n nm acc (41 :: (List.replicate g 32 ++ f)) = kTo m n nm acc f
      rw [kVal_stop, pB_run g hf]
    · have e : (Sg.step m (.vl n nm []) t) = .vl n nm [t] := by
        show (if t = [41] then _ else if ([] : List (List Nat)) = [] then _ else _) = _
        rw [if_neg (name_not h rfl), if_pos rfl]
      rw [e]
      show kVal m n nm [] _ = kVal m n nm [t] f
      rw [kVal_nil m n nm (name_ne41 h _)]
      unfold kCom
      rw [show pWord great (t ++ (List.replicate g 32 ++ f)) = .ok (t, List.replicate g 32 ++ f) from pWord_name h (gap_ni fun e => hn e h.hd)]
      show kVal m n nm [t] (pB _) = _
      rw [pB_run g hf]
    · have e : (Sg.step m (.vl n nm acc) [44]) = .com n nm acc := by
        show (if ([44] : List Nat) = [41] then Sg.to n nm acc else if acc = [] then Sg.vl n nm [[44]] else Sg.com n nm acc) = _
        rw [if_neg (by decide), if_neg ha]
      rw [e]
      show kVal m n nm acc (44 :: (List.replicate g 32 ++ f)) = kCom m n nm acc f
      rw [kVal_com m n nm ha, pB_run g hf]
  | com n nm acc =>
    have ht' : NameOk true t := ht
    show kCom m n nm acc _ = kVal m n nm (acc ++ [t]) f
    unfold kCom
    rw [show pWord great (t ++ (List.replicate g 32 ++ f)) = .ok (t, List.replicate g 32 ++ f) from pWord_name ht' (gap_ni fun e => hn e ht'.hd)]
    show kVal m n nm (acc ++ [t]) (pB _) = _
    rw [pB_run g hf]
  | to n nm vs =>
    obtain rfl : t = [45, 62] := ht
    show kTo m n nm vs _ = kAns m n nm vs f
    unfold kTo
    rw [seqP_ok (pTake_app _ _), pB_run g hf]
  | ans n nm vs =>
    show kAns m n nm vs _ = pEnd _ f
    unfold kAns pAns
    cases m with
    | true =>
      obtain ⟨k, rfl⟩ : ∃ k, t = TL.numL k := ht
      have e : pFig (TL.numL k ++ (List.replicate g 32 ++ f)) = .ok (k, List.replicate g 32 ++ f) := pFig_num k (gap_ni fun e => hn e (num_hd k))
      simp only [if_true, e, seqP, pB_run g hf, val_num]
    | false =>
      have h : NameOk true t := ht
      have e : pWord great (t ++ (List.replicate g 32 ++ f)) = .ok (t, List.replicate g 32 ++ f) := pWord_name h (gap_ni fun e => hn e h.hd)
      simp only [Bool.false_eq_true, if_false, e, seqP, pB_run g hf]
  | fin x => exact ht.elim
/-! ### a part of a token, then what no row holds -/
def foreign (c : Nat) : Bool := ni c && (nb c && (decide (c ≠ 40) && (decide (c ≠ 41) && (decide (c ≠ 44) && (decide (c ≠ 45) && decide (c ≠ 62))))))
theorem hd.mono {p q : Nat → Bool} {f : List Nat} (h : hd p f) (k : ∀ c, p c = true → q c = true) : hd q f := fun c e => k c (h c e)
theorem fo_ni {c : Nat} (h : foreign c = true) : ni c = true := by simp [foreign] at h; exact h.1
theorem fo_nb {c : Nat} (h : foreign c = true) : nb c = true := by simp [foreign] at h; exact h.2.1
theorem fo_ne {c d : Nat} (hd : d = 40 ∨ d = 41 ∨ d = 44 ∨ d = 45 ∨ d = 62) (h : foreign c = true) : c ≠ d := by
  simp [foreign] at h
  rcases hd with rfl | rfl | rfl | rfl | rfl <;> simp [h]
theorem ni_fig {c : Nat} (h : ni c = true) : (!fig c) = true := by
  cases e : fig c with
  | false => rfl
  | true => simp [ni, fig_row e] at h
theorem ni_fits {c : Nat} (m : Bool) (h : ni c = true) : (!(if m then great else small) c) = true := by
  cases e : (if m then great else small) c with
  | false => rfl
  | true =>
    cases m with
    | true => simp [ni, great_row e] at h
    | false => simp [ni, small_row e] at h
theorem pEnd_no {x : CRow} {f : List Nat} (h : f ≠ []) : pEnd x f = .error f := by
  cases f with
  | nil => exact absurd rfl h
  | cons c r => rfl
theorem pWord_fo {f : List Nat} (hf : hd ni f) : pWord great f = .error f := pWord_no (fits := great) (hf.mono fun c h => ni_fits true h)
theorem kVal_fo (m : Bool) (n : Nat) (nm : List Nat) (acc : List (List Nat)) {f : List Nat} (hf : hd foreign f) : kVal m n nm acc f = .error f := by
  by_cases ha : acc = []
  · subst ha
    rw [kVal_nil m n nm (fun e => fo_ne (d := 41) (by simp) (hf _ e) rfl)]
    unfold kCom
    rw [pWord_fo (hf.mono fun c h => fo_ni h)]
  · exact kVal_no m n nm ha (hf.mono fun c h => by
      have h1 := fo_ne (d := 41) (by simp) h
      have h2 := fo_ne (d := 44) (by simp) h
      simp [h1, h2])
theorem kOpn_fo (m : Bool) (n : Nat) (nm : List Nat) {f : List Nat} (hf : hd foreign f) : kOpn m n nm f = .error f := kOpn_no m n nm (hf.mono fun c h => by simpa using fo_ne (d := 40) (by simp) h)
theorem kTo_fo (m : Bool) (n : Nat) (nm : List Nat) (vs : List (List Nat)) {f : List Nat} (hf : hd foreign f) : kTo m n nm vs f = .error f := by
  unfold kTo
  have e := pTake_cut [] [45, 62] f (by simp) (hf.mono fun c h => by
    have h1 := fo_ne (d := 45) (by simp) h
    have h2 := fo_ne (d := 62) (by simp) h
    simp [h1, h2])
  rw [List.nil_append, List.nil_append] at e
  exact seqP_err e
theorem kAns_fo (m : Bool) (n : Nat) (nm : List Nat) (vs : List (List Nat)) {f : List Nat} (hf : hd foreign f) : kAns m n nm vs f = .error f := by
  unfold kAns pAns
  cases m with
  | true => simp only [if_true, pFig_no (hf.mono fun c h => ni_fig (fo_ni h)), seqP]
  | false =>
    have e : pWord great f = .error f := pWord_no (hf.mono fun c h => ni_fits true (fo_ni h))
    simp only [Bool.false_eq_true, if_false, e, seqP]
/-- a part of a number -/
theorem pFig_part {n : Nat} {u v f : List Nat} (e : TL.numL n = u ++ v) (hu : u ≠ []) (hf : hd ni f) : ∃ k, pFig (u ++ f) = .ok (k, f) := by
  cases u with
  | nil => exact absurd rfl hu
  | cons c r =>
    have ha := numL_fig n
    rw [e, List.all_append, Bool.and_eq_true] at ha
    obtain ⟨h1, h2⟩ := takeW (f := f) ha.1 (hf.mono fun c h => ni_fig h)
    rw [List.all_cons, Bool.and_eq_true] at ha
    rcases numL_head n with e2 | ⟨c2, r2, e2, hc, hfc⟩
    · rw [e2] at e
      have e3 : c = 48 ∧ r = [] := by
        simp only [List.cons_append, List.cons.injEq] at e
        obtain ⟨a, b⟩ := e
        have : r = [] ∧ v = [] := by simpa using b.symm
        exact ⟨a.symm, this.1⟩
      obtain ⟨rfl, rfl⟩ := e3
      exact ⟨0, rfl⟩
    · rw [e2] at e
      have hc' : c ≠ 48 := by
        simp only [List.cons_append, List.cons.injEq] at e
        rw [← e.1]; exact hc
      refine ⟨val (c :: r), ?_⟩
      rw [List.cons_append] at h1 h2 ⊢
      show (if c = 48 then _ else if fig c then _ else _) = _
      rw [if_neg hc', if_pos ha.1.1, h1, h2]
/-- a part of a name: a word that no name may be, or a name -/
theorem pWord_part {g : Bool} {t u v f : List Nat} (h : NameOk g t) (e : t = u ++ v) (hu : u ≠ []) (hf : hd ni f) : pWord (if g then great else small) (u ++ f) = .error f ∨ ∃ w, pWord (if g then great else small) (u ++ f) = .ok (w, f) := by
  have ha := h.all
  rw [e, List.all_append, Bool.and_eq_true] at ha
  obtain ⟨h1, h2⟩ := takeW (f := f) ha.1 hf
  cases u with
  | nil => exact absurd rfl hu
  | cons c r =>
    obtain ⟨c2, r2, e2, hc, _⟩ := h.pre
    have hcc : c2 = c := by rw [e] at e2; simp at e2; exact e2.1.symm
    subst hcc
    have e3 : (if g = true then great else small) c2 = true := by cases g <;> exact hc
    rw [List.cons_append] at h1 h2 ⊢
    rw [pWord_cons, if_pos e3, h1, h2]
    split
    · exact .inl rfl
    · exact .inr ⟨_, rfl⟩
def isAns : Sg → Bool
  | .ans .. => true
  | _ => false
theorem pre_err {m : Bool} {s : Sg} {t u v f : List Nat} (ht : TokOk m s t) (e : t = u ++ v) (hf : hd foreign f) (hx : isAns s = true → f = [] → u = []) : s.run m (u ++ f) = .error f := by
  have hni : hd ni f := hf.mono fun c h => fo_ni h
  have hnb : hd nb f := hf.mono fun c h => fo_nb h
  have hB := pB_self hnb
  cases s with
  | word =>
    have ht' : partL m = u ++ v := by rw [← e]; exact ht.symm
    show pRowM m _ = _
    rw [run_word]
    by_cases hv : v = []
    · rw [hv, List.append_nil] at ht'
      rw [ht', seqP_ok (pTake_app _ _), seqP_err (pGap_no hnb)]
    · rw [ht']
      refine seqP_err (pTake_cut u v f hv (hni.mono fun c h => ?_))
      have hall : (partL m).all inRow = true := by cases m <;> decide
      rw [ht', List.all_append, Bool.and_eq_true, List.all_eq_true, List.all_eq_true] at hall
      refine decide_eq_true fun hc => ?_
      have := hall.2 c hc
      simp [ni, this] at h
  | num =>
    obtain ⟨n, hn⟩ : ∃ n, t = TL.numL n := ht
    show kNum m _ = _
    unfold kNum
    by_cases hu : u = []
    · subst hu
      exact seqP_err (pFig_no (hni.mono fun c h => ni_fig h))
    · obtain ⟨k, hk⟩ := pFig_part (f := f) (hn.symm.trans e) hu hni
      rw [seqP_ok hk, seqP_err (pGap_no hnb)]
  | name n =>
    have ht' : NameOk m t := ht
    show kName m n _ = _
    unfold kName
    by_cases hu : u = []
    · subst hu
      exact seqP_err (pWord_no (hni.mono fun c h => ni_fits m h))
    · rcases pWord_part (f := f) ht' e hu hni with h | ⟨w, h⟩
      · exact seqP_err h
      · rw [seqP_ok h, hB, kOpn_fo m n w hf]
  | opn n nm =>
    obtain rfl : t = [40] := ht
    show kOpn m n nm _ = _
    cases u with
    | nil => exact kOpn_fo m n nm hf
    | cons c r =>
      simp only [List.cons_append, List.cons.injEq] at e
      obtain ⟨rfl, e2⟩ := e
      obtain rfl : r = [] := by have := e2.symm; simp at this; exact this.1
      show kOpn m n nm (40 :: f) = _
      rw [kOpn_run, hB, kVal_fo m n nm [] hf]
  | vl n nm acc =>
    show kVal m n nm acc _ = _
    by_cases hu : u = []
    · subst hu
      exact kVal_fo m n nm acc hf
    · rcases (show t = [41] ∨ (acc = [] ∧ NameOk true t) ∨ (acc ≠ [] ∧ t = [44]) from ht) with rfl | ⟨rfl, h⟩ | ⟨ha, rfl⟩
      · cases u with
        | nil => exact absurd rfl hu
        | cons c r =>
          simp only [List.cons_append, List.cons.injEq] at e
          obtain ⟨rfl, e2⟩ := e
          obtain rfl : r = [] := by have := e2.symm; simp at this; exact this.1
          show kVal m n nm acc (41 :: f) = _
          rw [kVal_stop, hB, kTo_fo m n nm acc hf]
      · have h41 : (u ++ f).head? ≠ some 41 := by
          cases u with
          | nil => exact absurd rfl hu
          | cons c r =>
            have := name_ne41 h []
            rw [e] at this
            simpa using this
        rw [kVal_nil m n nm h41]
        unfold kCom
        rcases pWord_part (f := f) h e hu hni with h1 | ⟨w, h1⟩
        · rw [show pWord great (u ++ f) = .error f from h1]
        · rw [show pWord great (u ++ f) = .ok (w, f) from h1]
          show kVal m n nm [w] (pB f) = _
          rw [hB, kVal_fo m n nm [w] hf]
      · cases u with
        | nil => exact absurd rfl hu
        | cons c r =>
          simp only [List.cons_append, List.cons.injEq] at e
          obtain ⟨rfl, e2⟩ := e
          obtain rfl : r = [] := by have := e2.symm; simp at this; exact this.1
          show kVal m n nm acc (44 :: f) = _
          rw [kVal_com m n nm ha, hB]
          unfold kCom
          rw [pWord_fo hni]
  | com n nm acc =>
    have h : NameOk true t := ht
    show kCom m n nm acc _ = _
    unfold kCom
    by_cases hu : u = []
    · subst hu
      rw [List.nil_append, pWord_fo hni]
    · rcases pWord_part (f := f) h e hu hni with h1 | ⟨w, h1⟩
      · rw [show pWord great (u ++ f) = .error f from h1]
      · rw [show pWord great (u ++ f) = .ok (w, f) from h1]
        show kVal m n nm (acc ++ [w]) (pB f) = _
        rw [hB, kVal_fo m n nm _ hf]
  | to n nm vs =>
    obtain rfl : t = [45, 62] := ht
    show kTo m n nm vs _ = _
    by_cases hv : v = []
    · rw [hv, List.append_nil] at e
      rw [← e]
      unfold kTo
      rw [seqP_ok (pTake_app _ _), hB, kAns_fo m n nm vs hf]
    · unfold kTo
      rw [e]
      refine seqP_err (pTake_cut u v f hv (hf.mono fun c h => decide_eq_true fun hc => ?_))
      have : c ∈ ([45, 62] : List Nat) := by rw [e]; exact List.mem_append_right _ hc
      rcases List.mem_cons.mp this with rfl | this
      · exact fo_ne (d := 45) (by simp) h rfl
      · rw [List.mem_singleton] at this
        subst this
        exact fo_ne (d := 62) (by simp) h rfl
  | ans n nm vs =>
    show kAns m n nm vs _ = _
    by_cases hu : u = []
    · subst hu
      exact kAns_fo m n nm vs hf
    · have hne : f ≠ [] := fun z => hu (hx rfl z)
      unfold kAns pAns
      cases m with
      | true =>
        obtain ⟨k, hk⟩ : ∃ k, t = TL.numL k := ht
        obtain ⟨j, hj⟩ := pFig_part (f := f) (hk.symm.trans e) hu hni
        simp only [if_true, hj, seqP, hB, pEnd_no hne]
      | false =>
        have h : NameOk true t := ht
        rcases pWord_part (f := f) h e hu hni with h1 | ⟨w, h1⟩
        · have h1' : pWord great (u ++ f) = .error f := h1
          simp only [Bool.false_eq_true, if_false, h1', seqP]
        · have h1' : pWord great (u ++ f) = .ok (w, f) := h1
          simp only [Bool.false_eq_true, if_false, h1', seqP, hB, pEnd_no hne]
  | fin x => exact ht.elim
end K29
end

section
set_option Elab.async false
set_option linter.all false
set_option maxRecDepth 100000
set_option maxHeartbeats 4000000
namespace K29
open PySem PySem.Spec PyProof.Rows L2 XT
/-- tokens, each with the blanks behind it -/
def sq : List (List Nat × Nat) → List Nat
  | [] => []
  | (t, g) :: r => t ++ (List.replicate g 32 ++ sq r)
theorem sq_app : ∀ a b, sq (a ++ b) = sq a ++ sq b
  | [], _ => rfl
  | (t, g) :: r, b => by
    show t ++ (List.replicate g 32 ++ sq (r ++ b)) = (t ++ (List.replicate g 32 ++ sq r)) ++ sq b
    rw [sq_app r b]
    simp
inductive Ch (m : Bool) : Sg → List (List Nat × Nat) → Sg → Prop where
  | nil (s : Sg) : Ch m s [] s
  | cons {s : Sg} {t : List Nat} {g : Nat} {r : List (List Nat × Nat)} {s' : Sg} : TokOk m s t → (s = .word ∨ s = .num → 1 ≤ g) → Ch m (s.step m t) r s' → Ch m s ((t, g) :: r) s'
theorem tok_nb {m : Bool} {s : Sg} {t : List Nat} (h : TokOk m s t) : t ≠ [] ∧ hd nb t := by
  have name : ∀ {g : Bool} {t : List Nat}, NameOk g t → t ≠ [] ∧ hd nb t := fun h => ⟨h.ne, h.hd.mono fun c hc => by
    cases e : nb c with
    | true => rfl
    | false =>
      simp [nb] at e
      subst e
      simp [inRow, small, great, fig] at hc⟩
  have num : ∀ n, TL.numL n ≠ [] ∧ hd nb (TL.numL n) := fun n => ⟨numL_ne' n, (num_hd n).mono fun c hc => by
    cases e : nb c with
    | true => rfl
    | false =>
      simp [nb] at e
      subst e
      simp [inRow, small, great, fig] at hc⟩
  cases s with
  | word =>
    obtain rfl : t = partL m := h
    cases m <;> exact ⟨by decide, hd_cons.mpr rfl⟩
  | num =>
    obtain ⟨n, rfl⟩ : ∃ n, t = TL.numL n := h
    exact num n
  | name n => exact name (show NameOk m t from h)
  | opn n nm =>
    obtain rfl : t = [40] := h
    exact ⟨by simp, hd_cons.mpr rfl⟩
  | vl n nm acc =>
    rcases (show t = [41] ∨ (acc = [] ∧ NameOk true t) ∨ (acc ≠ [] ∧ t = [44]) from h) with rfl | ⟨_, h⟩ | ⟨_, rfl⟩
    · exact ⟨by simp, hd_cons.mpr rfl⟩
    · exact name h
    · exact ⟨by simp, hd_cons.mpr rfl⟩
  | com n nm acc => exact name (show NameOk true t from h)
  | to n nm vs =>
    obtain rfl : t = [45, 62] := h
    exact ⟨by simp, hd_cons.mpr rfl⟩
  | ans n nm vs =>
    cases m with
    | true =>
      obtain ⟨k, rfl⟩ : ∃ k, t = TL.numL k := h
      exact num k
    | false => exact name (show NameOk true t from h)
  | fin x => exact h.elim
theorem hd_appL {p : Nat → Bool} {t F : List Nat} (ht : t ≠ []) (h : hd p t) : hd p (t ++ F) := by
  cases t with
  | nil => exact absurd rfl ht
  | cons c r => exact hd_cons.mpr (hd_cons.mp h)
theorem not_row {c : Nat} {r : List Nat} (hc : inRow c = false) : ¬ hd inRow (c :: r) := fun h => by
  rw [hd_cons.mp h] at hc
  cases hc
/-- what comes behind a word is no sign of one -/
theorem sep_next {m : Bool} {s : Sg} {t t2 : List Nat} (h : TokOk m s t) (h2 : TokOk m (s.step m t) t2) (hs : ¬ (s = .word ∨ s = .num)) (hw : hd inRow t) : hd ni t2 := by
  cases s with
  | word => exact absurd (.inl rfl) hs
  | num => exact absurd (.inr rfl) hs
  | name n =>
    obtain rfl : t2 = [40] := h2
    exact hd_cons.mpr rfl
  | opn n nm =>
    obtain rfl : t = [40] := h
    exact absurd hw (not_row rfl)
  | vl n nm acc =>
    rcases (show t = [41] ∨ (acc = [] ∧ NameOk true t) ∨ (acc ≠ [] ∧ t = [44]) from h) with rfl | ⟨rfl, hn⟩ | ⟨_, rfl⟩
    · exact absurd hw (not_row rfl)
    · have e : (Sg.step m (.vl n nm []) t) = .vl n nm [t] := by
        show (if t = [41] then _ else if ([] : List (List Nat)) = [] then _ else _) = _
        rw [if_neg (name_not hn rfl), if_pos rfl]
      rw [e] at h2
      rcases (show t2 = [41] ∨ ([t] = [] ∧ NameOk true t2) ∨ ([t] ≠ [] ∧ t2 = [44]) from h2) with rfl | ⟨z, _⟩ | ⟨_, rfl⟩
      · exact hd_cons.mpr rfl
      · cases z
      · exact hd_cons.mpr rfl
    · exact absurd hw (not_row rfl)
  | com n nm acc =>
    rcases (show t2 = [41] ∨ (acc ++ [t] = [] ∧ NameOk true t2) ∨ (acc ++ [t] ≠ [] ∧ t2 = [44]) from h2) with rfl | ⟨z, _⟩ | ⟨_, rfl⟩
    · exact hd_cons.mpr rfl
    · simp at z
    · exact hd_cons.mpr rfl
  | to n nm vs =>
    obtain rfl : t = [45, 62] := h
    exact absurd hw (not_row rfl)
  | ans n nm vs => exact (show False from h2).elim
  | fin x => exact h.elim
theorem Ch.head {m : Bool} {s s' : Sg} {t : List Nat} {g : Nat} {r : List (List Nat × Nat)} (h : Ch m s ((t, g) :: r) s') : TokOk m s t := by
  cases h with
  | cons h _ _ => exact h
/-- a row's start is read, the rest is handed on -/
theorem Ch.run {m : Bool} {s s' : Sg} {Q : List (List Nat × Nat)} (h : Ch m s Q s') : ∀ {f : List Nat}, hd nb f → (∀ t g, Q.getLast? = some (t, g) → g = 0 → hd inRow t → hd ni f) → s.run m (sq Q ++ f) = s'.run m f := by
  induction h with
  | nil s => intro f _ _; rfl
  | @cons s t g r s' ht hg hr ih =>
    intro f hf hl
    have e : sq ((t, g) :: r) ++ f = t ++ (List.replicate g 32 ++ (sq r ++ f)) := by simp [sq]
    rw [e]
    cases r with
    | nil => 
      cases hr with
      | nil => exact step_ok ht hf hg fun h0 hw => hl t g rfl h0 hw
    | cons p r =>
      obtain ⟨t2, g2⟩ := p
      have h2 := hr.head
      obtain ⟨n2, b2⟩ := tok_nb h2
      have e2 : sq ((t2, g2) :: r) ++ f = t2 ++ (List.replicate g2 32 ++ sq r ++ f) := by simp [sq]
      rw [step_ok ht (by rw [e2]; exact hd_appL n2 b2) hg fun h0 hw => by
        rw [e2]
        refine hd_appL n2 (sep_next ht h2 (fun z => ?_) hw)
        have := hg z
        omega]
      refine ih hf fun t' g' hl' => hl t' g' ?_
      rw [List.getLast?_cons_cons]
      exact hl'
/-- a row that is cut, or holds what no row holds, fails there -/
theorem Ch.cut {m : Bool} {x : CRow} {s s' : Sg} {Q : List (List Nat × Nat)} (h : Ch m s Q s') : s' = .fin x → ∀ {k : Nat} {f : List Nat}, Q ≠ [] → k ≤ (sq Q).length → hd foreign f → (f = [] → k ≤ (sq Q.dropLast).length) → s.run m ((sq Q).take k ++ f) = .error f := by
  induction h with
  | nil s => intro _ k f hq; exact absurd rfl hq
  | @cons s t g r s' ht hg hr ih =>
    intro hs' k f _ hk hf hl
    have hnb : hd nb f := hf.mono fun c h => fo_nb h
    have e : sq ((t, g) :: r) = t ++ (List.replicate g 32 ++ sq r) := rfl
    rw [e] at hk ⊢
    by_cases h1 : k ≤ t.length
    · have e1 : (t ++ (List.replicate g 32 ++ sq r)).take k = t.take k := by
        rw [List.take_append_of_le_length h1]
      rw [e1]
      refine pre_err ht (List.take_append_drop k t).symm hf fun ha h0 => ?_
      have hr0 : r = [] := by
        cases r with
        | nil => rfl
        | cons p r =>
          obtain ⟨t2, g2⟩ := p
          cases s with
          | ans n nm vs => exact (show False from hr.head).elim
          | _ => cases ha
      subst hr0
      have := hl h0
      have e0 : sq ([(t, g)].dropLast) = [] := rfl
      rw [e0] at this
      have k0 : k = 0 := by simpa using this
      rw [k0, List.take_zero]
    · have e1 : (t ++ (List.replicate g 32 ++ sq r)).take k = t ++ (List.replicate g 32 ++ sq r).take (k - t.length) := by
        rw [List.take_append, List.take_of_length_le (by omega)]
      rw [e1, List.append_assoc]
      generalize hj : k - t.length = j
      have hj1 : 1 ≤ j := by omega
      by_cases h2 : j ≤ g
      · have e2 : (List.replicate g 32 ++ sq r).take j = List.replicate j 32 := by
          rw [List.take_append_of_le_length (by rw [List.length_replicate]; exact h2), List.take_replicate, Nat.min_eq_left h2]
        rw [e2, step_ok ht hnb (fun _ => hj1) fun h0 _ => by omega]
        cases r with
        | nil =>
          cases hr with
          | nil =>
            rw [hs']
            refine pEnd_no fun h0 => ?_
            have := hl h0
            have e0 : sq ([(t, g)].dropLast) = [] := rfl
            rw [e0] at this
            simp at this
            omega
        | cons p r =>
          obtain ⟨t2, g2⟩ := p
          exact pre_err (u := []) hr.head rfl hf fun _ _ => rfl
      · have e2 : (List.replicate g 32 ++ sq r).take j = List.replicate g 32 ++ (sq r).take (j - g) := by
          rw [List.take_append, List.take_of_length_le (by rw [List.length_replicate]; omega), List.length_replicate]
        rw [e2, List.append_assoc]
        have hlen : j - g ≤ (sq r).length := by
          simp only [List.length_append, List.length_replicate] at hk
          omega
        cases r with
        | nil => simp [sq] at hlen; omega
        | cons p r =>
          obtain ⟨t2, g2⟩ := p
          have hd2 := hr.head
          obtain ⟨n2, b2⟩ := tok_nb hd2
          have hne : ∀ p : Nat → Bool, hd p t2 → hd p ((sq ((t2, g2) :: r)).take (j - g) ++ f) := fun p hp => by
            cases t2 with
            | nil => exact absurd rfl n2
            | cons c t2 =>
              obtain ⟨i, hi⟩ : ∃ i, j - g = i + 1 := ⟨j - g - 1, by omega⟩
              rw [hi]
              show hd p ((c :: (t2 ++ (List.replicate g2 32 ++ sq r))).take (i + 1) ++ f)
              rw [List.take_succ_cons, List.cons_append]
              exact hd_cons.mpr (hd_cons.mp hp)
          rw [step_ok ht (hne _ b2) hg fun h0 hw => by
            refine hne _ (sep_next ht hd2 (fun z => ?_) hw)
            have := hg z
            omega]
          refine ih hs' (by simp) hlen hf fun h0 => ?_
          have := hl h0
          have e0 : ((t, g) :: (t2, g2) :: r).dropLast = (t, g) :: ((t2, g2) :: r).dropLast := rfl
          rw [e0] at this
          have e3 : (sq ((t, g) :: ((t2, g2) :: r).dropLast)).length = t.length + (g + (sq ((t2, g2) :: r).dropLast).length) := by simp [sq]
          rw [e3] at this
          omega
theorem Ch.split {m : Bool} {s s' : Sg} : ∀ {a b : List (List Nat × Nat)}, Ch m s (a ++ b) s' → ∃ s1, Ch m s a s1 ∧ Ch m s1 b s' := by
  intro a
  induction a generalizing s with
  | nil => intro b h; exact ⟨s, .nil s, h⟩
  | cons p a ih =>
    obtain ⟨t, g⟩ := p
    intro b h
    cases h with
    | cons h1 h2 h3 =>
      obtain ⟨s1, h4, h5⟩ := ih h3
      exact ⟨s1, .cons h1 h2 h4, h5⟩
/-! ### a row's chain -/
inductive ChT (m : Bool) : Sg → List (List Nat) → Sg → Prop where
  | nil (s : Sg) : ChT m s [] s
  | cons {s : Sg} {t : List Nat} {r : List (List Nat)} {s' : Sg} : TokOk m s t → ChT m (s.step m t) r s' → ChT m s (t :: r) s'
def late : Sg → Bool
  | .word => false
  | .num => false
  | _ => true
theorem late_step {m : Bool} {s : Sg} {t : List Nat} (h : late s = true) : late (s.step m t) = true := by
  cases s with
  | word => cases h
  | num => cases h
  | vl n nm acc =>
    show late (if t = [41] then _ else if acc = [] then _ else _) = true
    split
    · rfl
    · split <;> rfl
  | _ => rfl
theorem ChT.ch {m : Bool} {s s' : Sg} {ts : List (List Nat)} (h : ChT m s ts s') : late s = true → ∀ {Q : List (List Nat × Nat)}, Q.map (·.1) = ts → Ch m s Q s' := by
  induction h with
  | nil s =>
    intro _ Q e
    have : Q = [] := by simpa using e
    subst this
    exact .nil s
  | @cons s t r s' ht hr ih =>
    intro hl Q e
    cases Q with
    | nil => cases e
    | cons p Q =>
      obtain ⟨t', g⟩ := p
      rw [List.map_cons] at e
      obtain ⟨e1, e2⟩ := List.cons.inj e
      obtain rfl : t' = t := e1
      refine .cons ht (fun z => ?_) (ih (late_step hl) e2)
      rcases z with rfl | rfl <;> cases hl
theorem vl_first {m : Bool} {n : Nat} {nm t : List Nat} (h : NameOk true t) : (Sg.step m (.vl n nm []) t) = .vl n nm [t] := by
  show (if t = [41] then _ else if ([] : List (List Nat)) = [] then _ else _) = _
  rw [if_neg (name_not h rfl), if_pos rfl]
theorem vl_com {m : Bool} {n : Nat} {nm : List Nat} {acc : List (List Nat)} (h : acc ≠ []) : (Sg.step m (.vl n nm acc) [44]) = .com n nm acc := by
  show (if ([44] : List Nat) = [41] then Sg.to n nm acc else if acc = [] then Sg.vl n nm [[44]] else Sg.com n nm acc) = _
  rw [if_neg (by decide), if_neg h]
theorem ChT.more {m : Bool} {n : Nat} {nm : List Nat} : ∀ (vs : List (List Nat)) (acc : List (List Nat)) (ts : List (List Nat)) (s' : Sg), acc ≠ [] → (∀ v ∈ vs, NameOk true v) → ChT m (.vl n nm (acc ++ vs)) ts s' → ChT m (.vl n nm acc) ((vs.flatMap fun v => [[44], v]) ++ ts) s'
  | [], acc, ts, s', _, _, h => by rw [List.append_nil] at h; exact h
  | v :: vs, acc, ts, s', ha, hv, h => by
    show ChT m (.vl n nm acc) ([44] :: (v :: ((vs.flatMap fun v => [[44], v]) ++ ts))) s'
    refine .cons (.inr (.inr ⟨ha, rfl⟩)) ?_
    rw [vl_com ha]
    refine .cons (hv v (by simp)) ?_
    exact ChT.more vs (acc ++ [v]) ts s' (by simp) (fun u hu => hv u (List.mem_cons_of_mem _ hu)) (by rw [List.append_assoc]; exact h)
theorem valToks_eq : ∀ (v : List Nat) (vs : List (List Nat)), valToks (v :: vs) = v :: vs.flatMap fun u => [[44], u]
  | _, [] => rfl
  | v, u :: vs => by
    rw [valToks, valToks_eq u vs]
    rfl
theorem ChT.vals {m : Bool} {n : Nat} {nm : List Nat} (vs : List (List Nat)) (ts : List (List Nat)) (s' : Sg) (hv : ∀ v ∈ vs, NameOk true v) (h : ChT m (.vl n nm vs) ts s') : ChT m (.vl n nm []) (valToks vs ++ ts) s' := by
  cases vs with
  | nil => exact h
  | cons v vs =>
    rw [valToks_eq, List.cons_append]
    refine .cons (.inr (.inl ⟨rfl, hv v (by simp)⟩)) ?_
    rw [vl_first (hv v (by simp))]
    exact ChT.more vs [v] ts s' (by simp) (fun u hu => hv u (List.mem_cons_of_mem _ hu)) h
theorem row_tail (x : CRow) (h : ROk x) : ChT x.isMk (.name x.frame) (x.name :: [40] :: (valToks x.vals ++ [[41], [45, 62], ansTok x.ans])) (.fin x) := by
  refine .cons h.name (.cons rfl (ChT.vals x.vals _ _ h.vals (.cons (.inl rfl) ?_)))
  have e : (Sg.step x.isMk (.vl x.frame x.name x.vals) [41]) = .to x.frame x.name x.vals := by
    rfl
  rw [e]
  refine .cons rfl (.cons ?_ ?_)
  · have ha := h.ans
    show if x.isMk then _ else _
    cases e2 : x.ans with
    | inl n =>
      rw [e2] at ha
      rw [ha.1]
      exact ⟨n, rfl⟩
    | inr w =>
      rw [e2] at ha
      rw [ha.1]
      exact ha.2
  · have e3 : (Sg.step x.isMk (.ans x.frame x.name x.vals) (ansTok x.ans)) = .fin x := by
      show Sg.fin ⟨x.isMk, x.frame, x.name, x.vals, _⟩ = _
      have ha := h.ans
      obtain ⟨mk, fr, nm, vs, an⟩ := x
      cases an with
      | inl n =>
        have hm : mk = true := ha.1
        subst hm
        show Sg.fin ⟨true, fr, nm, vs, .inl (val (TL.numL n))⟩ = _
        rw [val_num]
      | inr w =>
        have hm : mk = false := ha.1
        subst hm
        rfl
    rw [show (Sg.step x.isMk (Sg.step x.isMk (.to x.frame x.name x.vals) [45, 62]) (ansTok x.ans)) = .fin x from e3]
    exact .nil _
theorem row_ch (x : CRow) (h : ROk x) {g0 g1 : Nat} {Q : List (List Nat × Nat)} (h0 : 1 ≤ g0) (h1 : 1 ≤ g1) (hq : Q.map (·.1) = x.name :: [40] :: (valToks x.vals ++ [[41], [45, 62], ansTok x.ans])) : Ch x.isMk .word ((partL x.isMk, g0) :: (TL.numL x.frame, g1) :: Q) (.fin x) := by
  refine .cons rfl (fun _ => h0) (.cons ⟨x.frame, rfl⟩ (fun _ => h1) ?_)
  have e : (Sg.step x.isMk (Sg.step x.isMk .word (partL x.isMk)) (TL.numL x.frame)) = .name x.frame := congrArg Sg.name (val_num x.frame)
  rw [e]
  exact (row_tail x h).ch rfl hq
end K29
end

section
set_option Elab.async false
set_option linter.all false
set_option maxRecDepth 100000
set_option maxHeartbeats 4000000
namespace K29
open PySem PySem.Spec PyProof.Rows L2 XT
def shift : List (Nat × List Nat) → Nat → List (List Nat × Nat)
  | [], _ => []
  | [(_, t)], gl => [(t, gl)]
  | (_, t) :: (g2, t2) :: r, gl => (t, g2) :: shift ((g2, t2) :: r) gl
theorem sp_shift : ∀ (g : Nat) (t : List Nat) (P : List (Nat × List Nat)) (gl : Nat), sp ((g, t) :: P) ++ List.replicate gl 32 = List.replicate g 32 ++ sq (shift ((g, t) :: P) gl)
  | g, t, [], gl => by simp [sp, shift, sq]
  | g, t, (g2, t2) :: r, gl => by
    have ih := sp_shift g2 t2 r gl
    show (List.replicate g 32 ++ (t ++ sp ((g2, t2) :: r))) ++ List.replicate gl 32 = List.replicate g 32 ++ (t ++ (List.replicate g2 32 ++ sq (shift ((g2, t2) :: r) gl)))
    rw [← ih]
    simp
theorem shift_app : ∀ (P1 : List (Nat × List Nat)) (g : Nat) (t : List Nat) (P2 : List (Nat × List Nat)) (gl : Nat), shift (P1 ++ (g, t) :: P2) gl = shift P1 g ++ shift ((g, t) :: P2) gl
  | [], _, _, _, _ => rfl
  | [(g0, t0)], g, t, P2, gl => rfl
  | (g0, t0) :: (g1, t1) :: r, g, t, P2, gl => by
    show (t0, g1) :: shift ((g1, t1) :: r ++ (g, t) :: P2) gl = (t0, g1) :: (shift ((g1, t1) :: r) g ++ _)
    rw [shift_app ((g1, t1) :: r) g t P2 gl]
theorem shift_fst : ∀ (P : List (Nat × List Nat)) (gl : Nat), (shift P gl).map (·.1) = P.map (·.2)
  | [], _ => rfl
  | [_], _ => rfl
  | (g0, t0) :: (g1, t1) :: r, gl => by
    show t0 :: (shift ((g1, t1) :: r) gl).map (·.1) = _
    rw [shift_fst ((g1, t1) :: r) gl]
    rfl
theorem shift_last : ∀ (P : List (Nat × List Nat)) (gl : Nat) (t : List Nat) (g : Nat), (shift P gl).getLast? = some (t, g) → g = gl ∧ ∃ g', P.getLast? = some (g', t)
  | [], _, _, _, h => by cases h
  | [(g0, t0)], gl, t, g, h => by
    have : (t0, gl) = (t, g) := by simpa [shift] using h
    cases this
    exact ⟨rfl, g0, rfl⟩
  | (g0, t0) :: (g1, t1) :: r, gl, t, g, h => by
    have hne : shift ((g1, t1) :: r) gl ≠ [] := by
      intro z
      have := congrArg (List.map (·.1)) z
      rw [shift_fst] at this
      simp at this
    have h2 : (shift ((g1, t1) :: r) gl).getLast? = some (t, g) := by
      cases e : shift ((g1, t1) :: r) gl with
      | nil => exact absurd e hne
      | cons p q =>
        have : ((t0, g1) :: shift ((g1, t1) :: r) gl).getLast? = some (t, g) := h
        rw [e, List.getLast?_cons_cons] at this
        exact this
    obtain ⟨a, g', b⟩ := shift_last ((g1, t1) :: r) gl t g h2
    exact ⟨a, g', by rw [List.getLast?_cons_cons]; exact b⟩
/-- a row as it was spelled -/
structure RowS (x : CRow) (P : List (Nat × List Nat)) (gl : Nat) : Prop where
  ok : ROk x
  gaps : Gaps (toks x) P
  full : P.length = (toks x).length
  gl : gl ≤ 3
def txt (P : List (Nat × List Nat)) (gl : Nat) : List Nat := sp P ++ List.replicate gl 32
def pos (P : List (Nat × List Nat)) (k : Nat) : Nat := (sp (P.take k)).length + (P.getD k (0, [])).1
theorem toks_eq (x : CRow) : toks x = partL x.isMk :: TL.numL x.frame :: x.name :: [40] :: (valToks x.vals ++ [[41], [45, 62], ansTok x.ans]) := by simp [toks]
theorem RowS.tks {x : CRow} {P : List (Nat × List Nat)} {gl : Nat} (h : RowS x P gl) : P.map (·.2) = toks x := by
  have e := h.gaps.toks
  rw [h.full, List.take_length] at e
  exact e
theorem part_SG (m : Bool) : partL m ∉ SG := by cases m <;> decide
theorem row_SG {t : List Nat} (h : hd inRow t) (hn : t ≠ []) : t ∉ SG := by
  intro e
  cases t with
  | nil => exact absurd rfl hn
  | cons c r =>
    have hc := hd_cons.mp h
    simp [SG] at e
    rcases e with ⟨rfl, _⟩ | ⟨rfl, _⟩ | ⟨rfl, _⟩ | ⟨rfl, _⟩ <;> simp [inRow, small, great, fig] at hc
/-- the row's first three tokens -/
theorem RowS.start {x : CRow} {P : List (Nat × List Nat)} {gl : Nat} (h : RowS x P gl) : ∃ g0 g1 g2 g3 P', P = (g0, partL x.isMk) :: (g1, TL.numL x.frame) :: (g2, x.name) :: (g3, [40]) :: P' ∧ 1 ≤ g1 ∧ 1 ≤ g2 ∧ P'.map (·.2) = valToks x.vals ++ [[41], [45, 62], ansTok x.ans] := by
  have e := h.tks
  rw [toks_eq] at e
  match P, e, h with
  | [], e, _ => simp at e
  | [_], e, _ => simp at e
  | [_, _], e, _ => simp at e
  | [_, _, _], e, _ => simp at e
  | (g0, t0) :: (g1, t1) :: (g2, t2) :: (g3, t3) :: P', e, h =>
    simp only [List.map_cons, List.cons.injEq] at e
    obtain ⟨rfl, rfl, rfl, rfl, e⟩ := e
    have a0 : (toks x).getD 0 [] = partL x.isMk := by rw [toks_eq]; rfl
    have a1 : (toks x).getD 1 [] = TL.numL x.frame := by rw [toks_eq]; rfl
    have a2 : (toks x).getD 2 [] = x.name := by rw [toks_eq]; rfl
    have n0 := part_SG x.isMk
    have n1 := row_SG (num_hd x.frame) (numL_ne' x.frame)
    have n2 := row_SG h.ok.name.hd h.ok.name.ne
    refine ⟨g0, g1, g2, g3, P', rfl, ?_, ?_, e⟩
    · have := (h.gaps.gap 1 _ rfl).1
      have l : least (toks x) 1 = 1 := by
        unfold least
        rw [a1, show (1 - 1) = 0 from rfl, a0, decide_eq_true n0, decide_eq_true n1]
        rfl
      rw [l] at this
      exact this
    · have := (h.gaps.gap 2 _ rfl).1
      have l : least (toks x) 2 = 1 := by
        unfold least
        rw [a2, show (2 - 1) = 1 from rfl, a1, decide_eq_true n1, decide_eq_true n2]
        rfl
      rw [l] at this
      exact this
theorem RowS.ch {x : CRow} {P : List (Nat × List Nat)} {gl : Nat} (h : RowS x P gl) : Ch x.isMk .word (shift P gl) (.fin x) := by
  obtain ⟨g0, g1, g2, g3, P', rfl, h1, h2, e⟩ := h.start
  show Ch x.isMk .word ((partL x.isMk, g1) :: (TL.numL x.frame, g2) :: shift ((g2, x.name) :: (g3, [40]) :: P') gl) _
  refine row_ch x h.ok h1 h2 ?_
  rw [shift_fst]
  simp [e]
/-! ### lines -/
theorem pLine_row {g : Nat} {m : Bool} {r : List Nat} : pLine (List.replicate g 32 ++ (partL m ++ r)) = (match pRowM m (partL m ++ r) with | .error e => .error e | .ok (x, _) => .ok (some x)) := by
  obtain ⟨c, t, e, hc, hm⟩ : ∃ c t, partL m = c :: t ∧ c ≠ 32 ∧ (c == 109) = m := by cases m <;> exact ⟨_, _, rfl, by decide, rfl⟩
  unfold pLine
  rw [pB_run g (hd_appL (by rw [e]; simp) (by rw [e]; exact hd_cons.mpr (by simp [nb, hc])))]
  rw [e, List.cons_append]
  show (match pRow (c :: (t ++ r)) with | .error e => _ | .ok (x, _) => _) = _
  unfold pRow
  have : ((c :: (t ++ r)).head? == some 109) = m := by rw [← hm]; rfl
  rw [this]
theorem sq_head {m : Bool} {P : List (Nat × List Nat)} {g0 gl : Nat} : ∃ r, sq (shift ((g0, partL m) :: P) gl) = partL m ++ r := by
  cases P with
  | nil => exact ⟨_, rfl⟩
  | cons p r => obtain ⟨g2, t2⟩ := p; exact ⟨_, rfl⟩
/-- a row is read -/
theorem RowS.right {x : CRow} {P : List (Nat × List Nat)} {gl : Nat} (h : RowS x P gl) : pLine (txt P gl) = .ok (some x) := by
  have hc := h.ch
  obtain ⟨g0, g1, g2, g3, P', rfl, _⟩ := h.start
  have e := hc.run (f := []) (hd_nil _) fun _ _ _ _ _ => hd_nil _
  rw [List.append_nil] at e
  unfold txt
  rw [sp_shift]
  obtain ⟨r, hr⟩ := sq_head (m := x.isMk) (P := (g1, TL.numL x.frame) :: (g2, x.name) :: (g3, [40]) :: P') (g0 := g0) (gl := gl)
  rw [hr] at e ⊢
  rw [pLine_row]
  rw [show pRowM x.isMk (partL x.isMk ++ r) = .ok (x, []) from e]
theorem pLine_fo {g : Nat} {c : Nat} {r : List Nat} (h1 : c ≠ 32) (h2 : c ≠ 109) (h3 : c ≠ 97) : pLine (List.replicate g 32 ++ c :: r) = .error (c :: r) := by
  unfold pLine
  rw [pB_run g (hd_cons.mpr (by simp [nb, h1]))]
  show (match pRow (c :: r) with | .error e => Except.error e | .ok (x, _) => _) = _
  unfold pRow
  have : ((c :: r).head? == some 109) = false := by simp [h2]
  rw [this, run_word]
  have e : pTake (partL false) (c :: r) = .error (c :: r) := by
    show (if c = 97 then _ else _) = _
    rw [if_neg h3]
  rw [seqP_err e]
theorem fo_let {c : Nat} (h : foreign c = true) : c ≠ 109 ∧ c ≠ 97 ∧ c ≠ 32 := by
  refine ⟨?_, ?_, ?_⟩ <;> (intro e; subst e; revert h; decide)
/-- a row that is cut, or holds a foreign sign -/
theorem RowS.cut {x : CRow} {P : List (Nat × List Nat)} {gl k : Nat} {f : List Nat} (h : RowS x P gl) (hk : k ≤ (txt P gl).length) (hf : hd foreign f) (hn : f = [] → pos P 0 < k ∧ k ≤ pos P (P.length - 1)) : pLine ((txt P gl).take k ++ f) = .error f := by
  have hc := h.ch
  obtain ⟨g0, g1, g2, g3, P', hP, _⟩ := h.start
  have hsp : txt P gl = List.replicate g0 32 ++ sq (shift P gl) := by rw [hP]; exact sp_shift _ _ _ _
  have hp0 : pos P 0 = g0 := by rw [hP]; simp [pos, sp]
  have hP1 : ∃ P1 g t, P = P1 ++ [(g, t)] := by
    rcases List.eq_nil_or_concat P with e | ⟨P1, ⟨g, t⟩, e⟩
    · rw [e] at hP; cases hP
    · exact ⟨P1, g, t, by rw [e]; simp⟩
  have hdl : f = [] → k ≤ g0 + (sq (shift P gl).dropLast).length := fun h0 => by
    have h1 := (hn h0).2
    obtain ⟨P1, g, t, e⟩ := hP1
    have e1 : pos P (P.length - 1) = (sp P1).length + g := by
      unfold pos
      rw [e]
      simp
    have e2 : (shift P gl).dropLast = shift P1 g := by
      rw [e, shift_app]
      show (shift P1 g ++ [(t, gl)]).dropLast = _
      rw [List.dropLast_concat]
    rw [e2]
    cases P1 with
    | nil => rw [e] at hP; cases hP
    | cons q P1 =>
      obtain ⟨gq, tq⟩ := q
      have : gq = g0 := by
        rw [e] at hP
        simp at hP
        exact hP.1.1
      subst this
      have e3 := congrArg List.length (sp_shift gq tq P1 g)
      rw [List.length_append, List.length_append, List.length_replicate, List.length_replicate] at e3
      omega
  by_cases hg : k ≤ g0
  · have e1 : (txt P gl).take k = List.replicate k 32 := by
      rw [hsp, List.take_append_of_le_length (by rw [List.length_replicate]; exact hg), List.take_replicate, Nat.min_eq_left hg]
    rw [e1]
    cases f with
    | nil => have := (hn rfl).1; omega
    | cons c r =>
      obtain ⟨a, b, d⟩ := fo_let (hd_cons.mp hf)
      exact pLine_fo d a b
  · have e1 : (txt P gl).take k = List.replicate g0 32 ++ (sq (shift P gl)).take (k - g0) := by
      rw [hsp, List.take_append, List.take_of_length_le (by rw [List.length_replicate]; omega), List.length_replicate]
    have hle : k - g0 ≤ (sq (shift P gl)).length := by
      rw [hsp, List.length_append, List.length_replicate] at hk
      omega
    have hne : shift P gl ≠ [] := by
      intro z
      have := congrArg (List.map (·.1)) z
      rw [shift_fst, hP] at this
      simp at this
    have e2 := hc.cut rfl hne hle hf (fun h0 => by have := hdl h0; omega)
    rw [e1, List.append_assoc]
    -- the first sign tells make from act
    obtain ⟨r, hr⟩ := sq_head (m := x.isMk) (P := (g1, TL.numL x.frame) :: (g2, x.name) :: (g3, [40]) :: P') (g0 := g0) (gl := gl)
    rw [hP] at e2 ⊢
    rw [hr] at e2 ⊢
    obtain ⟨c, t, ec, hc32, hm⟩ : ∃ c t, partL x.isMk = c :: t ∧ c ≠ 32 ∧ (c == 109) = x.isMk := by cases x.isMk <;> exact ⟨_, _, rfl, by decide, rfl⟩
    rw [ec] at e2 ⊢
    obtain ⟨j, hj⟩ : ∃ j, k - g0 = j + 1 := ⟨k - g0 - 1, by omega⟩
    rw [hj, List.cons_append, List.take_succ_cons, List.cons_append] at e2 ⊢
    unfold pLine
    rw [pB_run g0 (hd_cons.mpr (by simp [nb, hc32]))]
    show (match pRow (c :: _) with | .error e => Except.error e | .ok (x, _) => _) = _
    unfold pRow
    have : ((c :: ((t ++ r).take j ++ f)).head? == some 109) = x.isMk := by rw [← hm]; rfl
    rw [this]
    rw [show pRowM x.isMk (c :: ((t ++ r).take j ++ f)) = .error f from e2]
/-- the reading up to a token, then something else -/
theorem RowS.mid {x : CRow} {P : List (Nat × List Nat)} {gl : Nat} (h : RowS x P gl) {P1 P2 : List (Nat × List Nat)} {g : Nat} {t : List Nat} (e : P = P1 ++ (g, t) :: P2) (h1 : P1 ≠ []) :
    ∃ s1, Ch x.isMk .word (shift P1 g) s1 ∧ Ch x.isMk s1 (shift ((g, t) :: P2) gl) (.fin x) ∧ TokOk x.isMk s1 t ∧ ∀ {f e : List Nat}, hd nb f → (g = 0 → (∀ g' t', P1.getLast? = some (g', t') → hd inRow t' → hd ni f)) → s1.run x.isMk f = .error e → pLine ((sp P1 ++ List.replicate g 32) ++ f) = .error e := by
  have hc := h.ch
  rw [e, shift_app] at hc
  obtain ⟨s1, c1, c2⟩ := hc.split
  refine ⟨s1, c1, c2, ?_, ?_⟩
  · cases P2 with
    | nil => exact c2.head
    | cons p r => obtain ⟨g2, t2⟩ := p; exact c2.head
  · intro f er hf hs he
    obtain ⟨g0, g1, g2, g3, P', hP, _⟩ := h.start
    cases P1 with
    | nil => exact absurd rfl h1
    | cons q P1 =>
      obtain ⟨gq, tq⟩ := q
      have hq : gq = g0 ∧ tq = partL x.isMk := by
        rw [e] at hP
        simp at hP
        exact hP.1
      obtain ⟨rfl, rfl⟩ := hq
      have e2 := c1.run hf fun t' g' hl h0 hw => by
        obtain ⟨rfl, g'', hl2⟩ := shift_last _ _ _ _ hl
        exact hs h0 _ _ hl2 hw
      rw [sp_shift, List.append_assoc]
      obtain ⟨r, hr⟩ := sq_head (m := x.isMk) (P := P1) (g0 := gq) (gl := g)
      rw [hr, List.append_assoc] at e2 ⊢
      rw [pLine_row]
      rw [show pRowM x.isMk (partL x.isMk ++ (r ++ f)) = .error er from e2.trans he]
end K29
end

section
set_option Elab.async false
set_option linter.all false
set_option maxRecDepth 100000
set_option maxHeartbeats 4000000
namespace K29
open PySem PySem.Spec PyProof.Rows L2 XT
structure BadL (l : List Nat) (col : Int) : Prop where
  ex : ∃ e, pLine l = .error e ∧ col = colAt l e
  clean : ∀ c ∈ l, c ≠ 10
  len : l.length ≤ 5000
/-! ### the signs and the size of a row -/
theorem num20 {n : Nat} (h : n < 10 ^ 20) : (TL.numL n).length ≤ 20 := TL.numL_len (by decide) h
theorem row_len (x : CRow) (h : ROk x) : ∀ t ∈ toks x, t.length ≤ 100 := by
  intro t ht
  rw [toks_eq] at ht
  have hn : ∀ {g : Bool} {t : List Nat}, NameOk g t → t.length ≤ 100 := fun h => by have := h.len; omega
  have hv : ∀ t ∈ valToks x.vals, t.length ≤ 100 := by
    have hvs := h.vals
    cases e : x.vals with
    | nil => intro t ht; cases ht
    | cons v vs =>
      intro t ht
      rw [valToks_eq] at ht
      rw [e] at hvs
      rcases List.mem_cons.mp ht with rfl | ht
      · exact hn (hvs _ (by simp))
      · obtain ⟨u, hu, hu2⟩ := List.mem_flatMap.mp ht
        simp at hu2
        rcases hu2 with rfl | rfl
        · simp
        · exact hn (hvs _ (by simp [hu]))
  have ha : (ansTok x.ans).length ≤ 100 := by
    have ha := h.ans
    cases e : x.ans with
    | inl n =>
      rw [e] at ha
      have := num20 (n := n) (by have := ha.2; have : (10 : Nat) ^ 6 < 10 ^ 20 := by decide
                                 omega)
      show (TL.numL n).length ≤ 100
      omega
    | inr w => rw [e] at ha; exact hn ha.2
  have hp : (partL x.isMk).length ≤ 100 := by cases x.isMk <;> decide
  simp only [List.mem_cons, List.mem_append, List.not_mem_nil, or_false] at ht
  rcases ht with rfl | rfl | rfl | rfl | ht | rfl | rfl | rfl
  · exact hp
  · have := num20 h.frame; omega
  · exact hn h.name
  · simp
  · exact hv t ht
  · simp
  · simp
  · exact ha
theorem toks_len (x : CRow) (h : ROk x) : (toks x).length ≤ 13 := by
  have := valToks_len x.vals
  have := h.many
  rw [toks_eq]
  simp
  omega
theorem row10 {t : List Nat} (h : t.all inRow = true) : ∀ c ∈ t, c ≠ 10 := by
  intro c hc e
  subst e
  have := (List.all_eq_true.mp h) 10 hc
  revert this
  decide
theorem row_clean (x : CRow) (h : ROk x) : ∀ t ∈ toks x, ∀ c ∈ t, c ≠ 10 := by
  intro t ht
  rw [toks_eq] at ht
  have hnum : ∀ n, ∀ c ∈ TL.numL n, c ≠ 10 := fun n => row10 (by
    rw [List.all_eq_true]
    intro c hc
    exact fig_row ((List.all_eq_true.mp (numL_fig n)) c hc))
  have hv : ∀ t ∈ valToks x.vals, ∀ c ∈ t, c ≠ 10 := by
    have hvs := h.vals
    cases e : x.vals with
    | nil => intro t ht; cases ht
    | cons v vs =>
      intro t ht
      rw [valToks_eq] at ht
      rw [e] at hvs
      rcases List.mem_cons.mp ht with rfl | ht
      · exact row10 (hvs _ (by simp)).all
      · obtain ⟨u, hu, hu2⟩ := List.mem_flatMap.mp ht
        simp at hu2
        rcases hu2 with rfl | rfl
        · simp
        · exact row10 (hvs _ (by simp [hu])).all
  have ha : ∀ c ∈ ansTok x.ans, c ≠ 10 := by
    have ha := h.ans
    cases e : x.ans with
    | inl n => exact hnum n
    | inr w => rw [e] at ha; exact row10 ha.2.all
  have hp : ∀ c ∈ partL x.isMk, c ≠ 10 := by cases x.isMk <;> decide
  simp only [List.mem_cons, List.mem_append, List.not_mem_nil, or_false] at ht
  rcases ht with rfl | rfl | rfl | rfl | ht | rfl | rfl | rfl
  · exact hp
  · exact hnum _
  · exact row10 h.name.all
  · simp
  · exact hv t ht
  · simp
  · simp
  · exact ha
section
variable {x : CRow} {P : List (Nat × List Nat)} {gl : Nat}
theorem RowS.len (h : RowS x P gl) : (txt P gl).length ≤ 1400 := by
  have h1 := sp_len (row_len x h.ok) h.gaps
  have h2 := toks_len x h.ok
  have h3 := h.full
  have h4 := h.gl
  unfold txt
  rw [List.length_append, List.length_replicate]
  omega
theorem RowS.clean (h : RowS x P gl) : ∀ c ∈ txt P gl, c ≠ 10 := by
  have h1 := row_clean x h.ok
  rw [← h.tks] at h1
  have g : ∀ (P : List (Nat × List Nat)), (∀ t ∈ P.map (·.2), ∀ c ∈ t, c ≠ 10) → ∀ c ∈ sp P, c ≠ 10 := by
    intro P
    induction P with
    | nil => intro _ c hc; cases hc
    | cons p r ih =>
      obtain ⟨g, t⟩ := p
      intro hp c hc
      simp only [sp, List.mem_append] at hc
      rcases hc with hc | hc | hc
      · rw [(List.mem_replicate.mp hc).2]; decide
      · exact hp t (by simp) c hc
      · exact ih (fun t ht => hp t (by simp at ht ⊢; exact .inr ht)) c hc
  intro c hc
  unfold txt at hc
  rcases List.mem_append.mp hc with hc | hc
  · exact g P h1 c hc
  · rw [(List.mem_replicate.mp hc).2]; decide
/-- the text at a token -/
theorem at_tok {k g : Nat} {t : List Nat} (hk : P[k]? = some (g, t)) : P = P.take k ++ (g, t) :: P.drop (k + 1) ∧ (sp (P.take k) ++ List.replicate g 32).length = pos P k ∧
    txt P gl = (sp (P.take k) ++ List.replicate g 32) ++ (t ++ (sp (P.drop (k + 1)) ++ List.replicate gl 32)) := by
  obtain ⟨h1, h2⟩ := List.getElem?_eq_some_iff.mp hk
  have e : P = P.take k ++ (g, t) :: P.drop (k + 1) := by
    rw [← h2, ← List.drop_eq_getElem_cons h1]
    exact (List.take_append_drop k P).symm
  refine ⟨e, ?_, ?_⟩
  · unfold pos
    rw [List.getD_eq_getElem?_getD, hk]
    simp
  · unfold txt
    have e2 : sp P = sp (P.take k ++ (g, t) :: P.drop (k + 1)) := congrArg sp e
    rw [e2, sp_app]
    simp [sp]
theorem take_tok {k g : Nat} {t : List Nat} (hk : P[k]? = some (g, t)) : (txt P gl).take (pos P k) = sp (P.take k) ++ List.replicate g 32 ∧ (txt P gl).drop (pos P k) = t ++ (sp (P.drop (k + 1)) ++ List.replicate gl 32) := by
  obtain ⟨_, e1, e2⟩ := at_tok (gl := gl) hk
  rw [e2, ← e1, List.take_left, List.drop_left]
  exact ⟨rfl, rfl⟩
theorem colAt_app (u e : List Nat) : colAt (u ++ e) e = (u.length : Int) + 1 := by
  unfold colAt
  rw [List.length_append]
  omega
theorem clean_take (h : ∀ c ∈ txt P gl, c ≠ 10) (k : Nat) : ∀ c ∈ (txt P gl).take k, c ≠ 10 := fun c hc => h c (List.mem_of_mem_take hc)
theorem clean_drop (h : ∀ c ∈ txt P gl, c ≠ 10) (k : Nat) : ∀ c ∈ (txt P gl).drop k, c ≠ 10 := fun c hc => h c (List.mem_of_mem_drop hc)
/-- the bent text: some of the row, some signs, some of the row -/
theorem BadL.mk2 (h : RowS x P gl) {i j : Nat} {s u e : List Nat} {col : Int} (hs : ∀ c ∈ s, c ≠ 10) (hl : s.length ≤ 100) (e1 : (txt P gl).take i ++ (s ++ (txt P gl).drop j) = u ++ e) (hp : pLine ((txt P gl).take i ++ (s ++ (txt P gl).drop j)) = .error e) (hc : col = (u.length : Int) + 1) : BadL ((txt P gl).take i ++ (s ++ (txt P gl).drop j)) col := by
  refine ⟨⟨e, hp, ?_⟩, fun c hc => ?_, ?_⟩
  · rw [e1, colAt_app]
    exact hc
  · rcases List.mem_append.mp hc with hc | hc
    · exact clean_take h.clean _ c hc
    · rcases List.mem_append.mp hc with hc | hc
      · exact hs c hc
      · exact clean_drop h.clean _ c hc
  · have := h.len
    simp only [List.length_append, List.length_take, List.length_drop]
    omega
theorem sh0 (h : RowS x P gl) {k : Nat} (h0 : pos P 0 < k) (h1 : k ≤ pos P (P.length - 1)) (h2 : k ≤ (txt P gl).length) : BadL ((txt P gl).take k) ((k : Int) + 1) := by
  have e := h.cut h2 (f := []) (hd_nil _) fun _ => ⟨h0, h1⟩
  rw [List.append_nil] at e
  refine ⟨⟨[], e, ?_⟩, clean_take h.clean k, ?_⟩
  · unfold colAt
    rw [List.length_take, Nat.min_eq_left h2]
    simp
  · have := h.len
    rw [List.length_take]
    omega
def BADS : List Nat := [35, 63, 46, 59, 58, 61, 124, 123, 125, 42, 91, 93, 60, 33, 38, 47, 43, 126, 94, 9, 39]
theorem bads_fo : ∀ c ∈ BADS, foreign c = true := by decide
theorem sh1 (h : RowS x P gl) {k c : Nat} (h2 : k ≤ (txt P gl).length) (hc : c ∈ BADS) : BadL ((txt P gl).take k ++ ([c] ++ (txt P gl).drop k)) ((k : Int) + 1) := by
  refine BadL.mk2 h (u := (txt P gl).take k) (e := [c] ++ (txt P gl).drop k) (fun d hd e => ?_) (by simp) rfl (h.cut h2 (hd_cons.mpr (bads_fo c hc)) fun z => by simp at z) ?_
  · rw [List.mem_singleton] at hd
    subst hd
    have := bads_fo d hc
    subst e
    revert hc
    decide
  · rw [List.length_take, Nat.min_eq_left h2]
/-! ### stages by tokens -/
theorem tok_open {m : Bool} {s : Sg} (h : TokOk m s [40]) : ∃ n nm, s = .opn n nm := by
  have nn : ∀ {g}, ¬ NameOk g [40] := fun h => not_row rfl h.hd
  have nu : ∀ n, ¬ [40] = TL.numL n := fun n e => not_row (c := 40) (r := []) rfl (by rw [e]; exact num_hd n)
  cases s with
  | word => cases m <;> cases (show [40] = partL _ from h)
  | num => obtain ⟨n, e⟩ : ∃ n, [40] = TL.numL n := h; exact absurd e (nu n)
  | name n => exact absurd (show NameOk m [40] from h) nn
  | opn n nm => exact ⟨n, nm, rfl⟩
  | vl n nm acc =>
    rcases (show [40] = [41] ∨ (acc = [] ∧ NameOk true [40]) ∨ (acc ≠ [] ∧ [40] = [44]) from h) with e | ⟨_, e⟩ | ⟨_, e⟩
    · simp at e
    · exact absurd e nn
    · simp at e
  | com n nm acc => exact absurd (show NameOk true [40] from h) nn
  | to n nm vs => cases (show [40] = [45, 62] from h)
  | ans n nm vs =>
    cases m with
    | true => obtain ⟨n, e⟩ : ∃ n, [40] = TL.numL n := h; exact absurd e (nu n)
    | false => exact absurd (show NameOk true [40] from h) nn
  | fin x => exact h.elim
theorem tok_to {m : Bool} {s : Sg} (h : TokOk m s [45, 62]) : ∃ n nm vs, s = .to n nm vs := by
  have nn : ∀ {g}, ¬ NameOk g [45, 62] := fun h => not_row rfl h.hd
  have nu : ∀ n, ¬ [45, 62] = TL.numL n := fun n e => not_row (c := 45) (r := [62]) rfl (by rw [e]; exact num_hd n)
  cases s with
  | word => cases m <;> cases (show [45, 62] = partL _ from h)
  | num => obtain ⟨n, e⟩ : ∃ n, [45, 62] = TL.numL n := h; exact absurd e (nu n)
  | name n => exact absurd (show NameOk m [45, 62] from h) nn
  | opn n nm => cases (show [45, 62] = [40] from h)
  | vl n nm acc =>
    rcases (show [45, 62] = [41] ∨ (acc = [] ∧ NameOk true [45, 62]) ∨ (acc ≠ [] ∧ [45, 62] = [44]) from h) with e | ⟨_, e⟩ | ⟨_, e⟩
    · simp at e
    · exact absurd e nn
    · simp at e
  | com n nm acc => exact absurd (show NameOk true [45, 62] from h) nn
  | to n nm vs => exact ⟨n, nm, vs, rfl⟩
  | ans n nm vs =>
    cases m with
    | true => obtain ⟨n, e⟩ : ∃ n, [45, 62] = TL.numL n := h; exact absurd e (nu n)
    | false => exact absurd (show NameOk true [45, 62] from h) nn
  | fin x => exact h.elim
/-- the last token that was read, and its stage -/
theorem Ch.last {m : Bool} {s s' : Sg} {Q : List (List Nat × Nat)} (h : Ch m s Q s') : ∀ {t : List Nat} {g : Nat}, Q.getLast? = some (t, g) → ∃ s1, TokOk m s1 t ∧ s' = s1.step m t := by
  induction h with
  | nil s => intro t g e; cases e
  | @cons s t0 g0 r s' h1 h2 h3 ih =>
    intro t g e
    cases r with
    | nil =>
      cases h3
      have : (t0, g0) = (t, g) := by simpa using e
      cases this
      exact ⟨s, h1, rfl⟩
    | cons p r =>
      rw [List.getLast?_cons_cons] at e
      exact ih e
def calm : Sg → Bool
  | .vl _ _ acc => decide (acc = [])
  | .com .. => true
  | .to .. => true
  | .ans .. => true
  | _ => false
/-- ahead of these no word stands -/
theorem Ch.calm {m : Bool} {s s' : Sg} {Q : List (List Nat × Nat)} (h : Ch m s Q s') (hc : calm s' = true) {t : List Nat} {g : Nat} (e : Q.getLast? = some (t, g)) : ¬ hd inRow t := by
  obtain ⟨s1, h1, h2⟩ := h.last e
  subst h2
  cases s1 with
  | word => cases hc
  | num => cases hc
  | name n => cases hc
  | opn n nm =>
    obtain rfl : t = [40] := h1
    exact not_row rfl
  | vl n nm acc =>
    rcases (show t = [41] ∨ (acc = [] ∧ NameOk true t) ∨ (acc ≠ [] ∧ t = [44]) from h1) with rfl | ⟨rfl, hn⟩ | ⟨_, rfl⟩
    · exact not_row rfl
    · rw [vl_first hn] at hc
      cases hc
    · exact not_row rfl
  | com n nm acc =>
    have : decide (acc ++ [t] = []) = true := hc
    simp at this
  | to n nm vs =>
    obtain rfl : t = [45, 62] := h1
    exact not_row rfl
  | ans n nm vs => cases hc
  | fin x => exact h1.elim
/-- the one token that is left is the answer -/
theorem ch_one {m : Bool} {s : Sg} {t : List Nat} {g : Nat} {x : CRow} (h : Ch m s [(t, g)] (.fin x)) : ∃ n nm vs, s = .ans n nm vs := by
  cases h with
  | cons h1 h2 h3 =>
    generalize e : s.step m t = s2 at h3
    cases h3
    cases s with
    | word => cases e
    | num => cases e
    | name n => cases e
    | opn n nm => cases e
    | vl n nm acc =>
      have e' : (if t = [41] then Sg.to n nm acc else if acc = [] then Sg.vl n nm [t] else Sg.com n nm acc) = .fin x := e
      split at e'
      · cases e'
      · split at e' <;> cases e'
    | com n nm acc => cases e
    | to n nm vs => cases e
    | ans n nm vs => exact ⟨n, nm, vs, rfl⟩
    | fin y => exact h1.elim
end
end K29
end

section
set_option Elab.async false
set_option linter.all false
set_option maxRecDepth 100000
set_option maxHeartbeats 4000000
namespace K29
open PySem PySem.Spec PyProof.Rows L2 XT
section
variable {x : CRow} {P : List (Nat × List Nat)} {gl : Nat}
theorem tokP (h : RowS x P gl) {k : Nat} {t : List Nat} (e : (toks x)[k]? = some t) : ∃ g, P[k]? = some (g, t) := by
  rw [← h.tks, List.getElem?_map] at e
  cases e2 : P[k]? with
  | none => rw [e2] at e; cases e
  | some p =>
    obtain ⟨g, t'⟩ := p
    rw [e2] at e
    simp at e
    subst e
    exact ⟨g, rfl⟩
theorem take_ne {k : Nat} {p : Nat × List Nat} (hk : P[k]? = some p) (h1 : 1 ≤ k) : P.take k ≠ [] := by
  intro e
  have := congrArg List.length e
  have hl := (List.getElem?_eq_some_iff.mp hk).1
  rw [List.length_take, List.length_nil] at this
  omega
/-- the reading up to the k-th token -/
theorem RowS.at (h : RowS x P gl) {k g : Nat} {t : List Nat} (hk : P[k]? = some (g, t)) (h1 : 1 ≤ k) :
    ∃ s1, Ch x.isMk .word (shift (P.take k) g) s1 ∧ Ch x.isMk s1 (shift ((g, t) :: P.drop (k + 1)) gl) (.fin x) ∧ TokOk x.isMk s1 t ∧ ∀ {f e : List Nat}, hd nb f → (g = 0 → calm s1 = true ∨ hd ni f) → s1.run x.isMk f = .error e → pLine ((txt P gl).take (pos P k) ++ f) = .error e := by
  obtain ⟨e1, e2, e3⟩ := at_tok (gl := gl) hk
  obtain ⟨s1, c1, c2, tk, r⟩ := h.mid e1 (take_ne hk h1)
  refine ⟨s1, c1, c2, tk, fun {f er} hf hs he => ?_⟩
  rw [(take_tok hk).1]
  refine r hf (fun h0 g' t' hl hw => ?_) he
  rcases hs h0 with hc | hn
  · have hl2 : ∃ g2, (shift (P.take k) g).getLast? = some (t', g2) := by
      have hm := congrArg List.getLast? (shift_fst (P.take k) g)
      rw [List.getLast?_map, List.getLast?_map, hl] at hm
      cases e4 : (shift (P.take k) g).getLast? with
      | none => rw [e4] at hm; cases hm
      | some q =>
        obtain ⟨t2, g2⟩ := q
        rw [e4] at hm
        have : t2 = t' := by simpa using hm
        subst this
        exact ⟨g2, rfl⟩
    obtain ⟨g2, hl2⟩ := hl2
    exact absurd hw (c1.calm hc hl2)
  · exact hn
theorem last_at (h : RowS x P gl) : ∃ g, P[P.length - 1]? = some (g, ansTok x.ans) := tokP h (by
  rw [h.full, toks_eq]
  simp)
theorem to_at (h : RowS x P gl) : ∃ g, P[P.length - 2]? = some (g, [45, 62]) := tokP h (by
  rw [h.full, toks_eq]
  simp)
theorem RowS.six (h : RowS x P gl) : 7 ≤ P.length := by
  rw [h.full, toks_eq]
  simp
theorem RowS.ansSt (h : RowS x P gl) : ∃ g n nm vs, P[P.length - 1]? = some (g, ansTok x.ans) ∧ TokOk x.isMk (.ans n nm vs) (ansTok x.ans) ∧ ∀ {f e : List Nat}, hd nb f → kAns x.isMk n nm vs f = .error e → pLine ((txt P gl).take (pos P (P.length - 1)) ++ f) = .error e := by
  obtain ⟨g, hk⟩ := last_at h
  have h6 := h.six
  obtain ⟨s1, c1, c2, tk, r⟩ := h.at hk (by omega)
  have hd0 : P.drop (P.length - 1 + 1) = [] := List.drop_eq_nil_iff.mpr (by omega)
  rw [hd0] at c2
  obtain ⟨n, nm, vs, rfl⟩ := ch_one c2
  exact ⟨g, n, nm, vs, hk, tk, fun hf he => r hf (fun _ => .inl rfl) he⟩
theorem RowS.toSt (h : RowS x P gl) : ∃ g n nm vs, P[P.length - 2]? = some (g, [45, 62]) ∧ ∀ {f e : List Nat}, hd nb f → kTo x.isMk n nm vs f = .error e → pLine ((txt P gl).take (pos P (P.length - 2)) ++ f) = .error e := by
  obtain ⟨g, hk⟩ := to_at h
  have h6 := h.six
  obtain ⟨s1, c1, c2, tk, r⟩ := h.at hk (by omega)
  obtain ⟨n, nm, vs, rfl⟩ := tok_to tk
  exact ⟨g, n, nm, vs, hk, fun hf he => r hf (fun _ => .inl rfl) he⟩
theorem RowS.numSt (h : RowS x P gl) : ∃ g, 1 ≤ g ∧ P[1]? = some (g, TL.numL x.frame) ∧ ∀ {f e : List Nat}, hd nb f → kNum x.isMk f = .error e → pLine ((txt P gl).take (pos P 1) ++ f) = .error e := by
  obtain ⟨g0, g1, g2, g3, P', hP, h1, h2, _⟩ := id h.start
  have hk : P[1]? = some (g1, TL.numL x.frame) := by rw [hP]; rfl
  obtain ⟨s1, c1, c2, tk, r⟩ := h.at hk (by omega)
  have : P.take 1 = [(g0, partL x.isMk)] := by rw [hP]; rfl
  rw [this] at c1
  cases c1 with
  | cons a b c =>
    cases c
    exact ⟨g1, h1, hk, fun hf he => r hf (fun z => by omega) he⟩
theorem RowS.nameSt (h : RowS x P gl) : ∃ g n, 1 ≤ g ∧ P[2]? = some (g, x.name) ∧ ∀ {f e : List Nat}, hd nb f → kName x.isMk n f = .error e → pLine ((txt P gl).take (pos P 2) ++ f) = .error e := by
  obtain ⟨g0, g1, g2, g3, P', hP, h1, h2, _⟩ := id h.start
  have hk : P[2]? = some (g2, x.name) := by rw [hP]; rfl
  obtain ⟨s1, c1, c2, tk, r⟩ := h.at hk (by omega)
  have : P.take 2 = [(g0, partL x.isMk), (g1, TL.numL x.frame)] := by rw [hP]; rfl
  rw [this] at c1
  cases c1 with
  | cons a b c =>
    cases c with
    | cons a b c =>
      cases c
      exact ⟨g2, _, h2, hk, fun hf he => r hf (fun z => by omega) he⟩
/-! ### tails -/
def TAILS : List (List Nat) := [[32, 120], [32, 48], [32, 40], [40], [32, 45, 62], [44], [45], [41]]
def extra (t : List Nat) : Nat := if t.take 1 = [32] then 1 else 0
theorem kAns_tail {m : Bool} {n : Nat} {nm : List Nat} {vs : List (List Nat)} {t F : List Nat} (ht : TokOk m (.ans n nm vs) t) (hF : hd ni F) (hne : pB F ≠ []) : kAns m n nm vs (t ++ F) = .error (pB F) := by
  unfold kAns pAns
  cases m with
  | true =>
    obtain ⟨k, rfl⟩ : ∃ k, t = TL.numL k := ht
    simp only [if_true, pFig_num k hF, seqP, pEnd_no hne]
  | false =>
    have h : NameOk true t := ht
    have e : pWord great (t ++ F) = .ok (t, F) := pWord_name h hF
    simp only [Bool.false_eq_true, if_false, e, seqP, pEnd_no hne]
theorem sh2 (h : RowS x P gl) {t : List Nat} (ht : t ∈ TAILS) : BadL (txt P gl ++ t) (((txt P gl).length : Int) + 1 + (extra t : Int)) := by
  obtain ⟨g, n, nm, vs, hk, tk, r⟩ := h.ansSt
  have tk0 := tok_nb tk
  obtain ⟨e1, e2⟩ := take_tok (gl := gl) hk
  have hd0 : P.drop (P.length - 1 + 1) = [] := List.drop_eq_nil_iff.mpr (by have := h.six; omega)
  rw [hd0] at e2
  have e3 : txt P gl ++ t = (txt P gl).take (pos P (P.length - 1)) ++ (ansTok x.ans ++ (List.replicate gl 32 ++ t)) := by
    have := List.take_append_drop (pos P (P.length - 1)) (txt P gl)
    rw [e2] at this
    have e4 : txt P gl ++ t = ((txt P gl).take (pos P (P.length - 1)) ++ (ansTok x.ans ++ (sp [] ++ List.replicate gl 32))) ++ t := by rw [this]
    rw [e4]
    simp [sp]
  obtain ⟨b1, b2, b3, b4, b5⟩ : hd ni t ∧ (∃ t', t = List.replicate (extra t) 32 ++ t' ∧ hd nb t' ∧ t' ≠ []) ∧ (∀ c ∈ t, c ≠ 10) ∧ t.length ≤ 10 ∧ t ≠ [] := by
    simp only [TAILS, List.mem_cons, List.not_mem_nil, or_false] at ht
    rcases ht with rfl | rfl | rfl | rfl | rfl | rfl | rfl | rfl <;> exact ⟨hd_cons.mpr rfl, ⟨_, rfl, hd_cons.mpr rfl, by simp⟩, by decide, by decide, by simp⟩
  obtain ⟨t', et, ht', hne⟩ := b2
  have ep : pB (List.replicate gl 32 ++ t) = t' := by
    rw [et, ← List.append_assoc, List.replicate_append_replicate]
    exact pB_run _ ht'
  have hF : hd ni (List.replicate gl 32 ++ t) := gap_ni fun _ => b1
  have he := kAns_tail tk hF (by rw [ep]; exact hne)
  rw [ep] at he
  have hp := r (f := ansTok x.ans ++ (List.replicate gl 32 ++ t)) (hd_appL tk0.1 tk0.2) he
  rw [← e3] at hp
  refine ⟨⟨t', hp, ?_⟩, fun c hc => ?_, ?_⟩
  · have : txt P gl ++ t = (txt P gl ++ List.replicate (extra t) 32) ++ t' := by rw [List.append_assoc, ← et]
    rw [this, colAt_app]
    simp
    omega
  · rcases List.mem_append.mp hc with hc | hc
    · exact h.clean c hc
    · exact b3 c hc
  · have := h.len
    rw [List.length_append]
    omega
/-! ### a nought ahead of a number -/
theorem pFig_nought (F : List Nat) : pFig (48 :: F) = .ok (0, F) := rfl
theorem sh3 (h : RowS x P gl) {k : Nat} (hk : k = 1 ∨ (x.isMk = true ∧ k = P.length - 1)) : BadL ((txt P gl).take (pos P k) ++ ([48] ++ (txt P gl).drop (pos P k))) ((pos P k : Int) + 2) := by
  have fin : ∀ {g : Nat} {t : List Nat}, P[k]? = some (g, t) → pLine ((txt P gl).take (pos P k) ++ (48 :: (txt P gl).drop (pos P k))) = .error ((txt P gl).drop (pos P k)) → BadL ((txt P gl).take (pos P k) ++ ([48] ++ (txt P gl).drop (pos P k))) ((pos P k : Int) + 2) := fun hk2 hp => by
    refine BadL.mk2 h (u := (txt P gl).take (pos P k) ++ [48]) (e := (txt P gl).drop (pos P k)) (by simp) (by simp) (by simp) hp ?_
    obtain ⟨_, e2, _⟩ := at_tok (gl := gl) hk2
    rw [(take_tok hk2).1, List.length_append, e2]
    simp
    omega
  have num : ∀ n V, hd nb (TL.numL n ++ V) := fun n V => hd_appL (numL_ne' n) ((num_hd n).mono fun c hc => by
    cases e : nb c with
    | true => rfl
    | false =>
      simp [nb] at e
      subst e
      simp [inRow, small, great, fig] at hc)
  rcases hk with rfl | ⟨hm, rfl⟩
  · obtain ⟨g, hg, hk, r⟩ := h.numSt
    refine fin hk (r (hd_cons.mpr rfl) ?_)
    unfold kNum
    rw [seqP_ok (pFig_nought _)]
    refine seqP_err (pGap_no ?_)
    rw [(take_tok hk).2]
    exact num _ _
  · obtain ⟨g, n, nm, vs, hk, tk, r⟩ := h.ansSt
    refine fin hk (r (hd_cons.mpr rfl) ?_)
    rw [hm] at tk ⊢
    obtain ⟨j, hj⟩ : ∃ j, ansTok x.ans = TL.numL j := tk
    unfold kAns pAns
    rw [(take_tok hk).2, hj]
    simp only [if_true, pFig_nought, seqP, pB_self (num j _)]
    refine pEnd_no ?_
    intro z
    exact numL_ne' j (List.append_eq_nil_iff.mp z).1
/-! ### two tokens in one -/
theorem take_tok2 {k g : Nat} {t : List Nat} (hk : P[k]? = some (g, t)) : (txt P gl).take (pos P k + t.length) = (txt P gl).take (pos P k) ++ t ∧ (txt P gl).drop (pos P k + t.length) = sp (P.drop (k + 1)) ++ List.replicate gl 32 := by
  have e := (List.take_append_drop (pos P k) (txt P gl)).symm
  obtain ⟨h1, h2⟩ := take_tok (gl := gl) hk
  obtain ⟨_, e2, _⟩ := at_tok (gl := gl) hk
  have hl : ((txt P gl).take (pos P k)).length = pos P k := by rw [h1, e2]
  constructor
  · rw [List.take_add, h2, List.take_left]
  · rw [← List.drop_drop, h2, List.drop_left]
theorem sh4 (h : RowS x P gl) {k : Nat} (hk : k = 0 ∨ k = 1) {t : List Nat} (ht : (toks x)[k]? = some t) : BadL ((txt P gl).take (pos P k + t.length) ++ ([] ++ (txt P gl).drop (pos P (k + 1)))) (((pos P k + t.length : Nat) : Int) + 1) := by
  obtain ⟨g, hkk⟩ := tokP h ht
  have hl : ((txt P gl).take (pos P k + t.length)).length = pos P k + t.length := by
    rw [(take_tok2 hkk).1, List.length_append, (take_tok hkk).1, (at_tok (gl := gl) hkk).2.1]
  refine BadL.mk2 h (u := (txt P gl).take (pos P k + t.length)) (e := (txt P gl).drop (pos P (k + 1))) (by simp) (by simp) rfl ?_ (by rw [hl])
  rw [List.nil_append, (take_tok2 hkk).1]
  rcases hk with rfl | rfl
  · have ht0 : t = partL x.isMk := by rw [toks_eq] at ht; simpa using ht.symm
    subst ht0
    obtain ⟨g1, hg1, hk1, _⟩ := h.numSt
    rw [(take_tok hkk).1]
    show pLine ((([] : List Nat) ++ List.replicate g 32) ++ partL x.isMk ++ _) = _
    rw [List.nil_append, List.append_assoc, pLine_row, run_word, seqP_ok (pTake_app _ _)]
    have hnb : hd nb ((txt P gl).drop (pos P (0 + 1))) := by
      rw [(take_tok hk1).2]
      exact hd_appL (numL_ne' _) (tok_nb (m := x.isMk) (s := .num) ⟨x.frame, rfl⟩).2
    rw [seqP_err (pGap_no hnb)]
  · have ht0 : t = TL.numL x.frame := by rw [toks_eq] at ht; simpa using ht.symm
    subst ht0
    obtain ⟨g1, hg1, hk1, r⟩ := h.numSt
    obtain ⟨g2, n, hg2, hk2, _⟩ := h.nameSt
    rw [List.append_assoc]
    have hnm := h.ok.name
    refine r (hd_appL (numL_ne' _) (tok_nb (m := x.isMk) (s := .num) ⟨x.frame, rfl⟩).2) ?_
    unfold kNum
    rw [(take_tok hk2).2]
    have hf : hd (fun c => !fig c) (x.name ++ (sp (P.drop (2 + 1)) ++ List.replicate gl 32)) := by
      obtain ⟨c, r, e, hc, _⟩ := hnm.pre
      rw [e]
      refine hd_cons.mpr ?_
      cases hf : fig c with
      | false => simp [hf]
      | true =>
        cases hm : x.isMk with
        | true =>
          rw [hm] at hc
          simp [great, fig] at hc hf
          omega
        | false =>
          rw [hm] at hc
          simp [small, fig] at hc hf
          omega
    rw [seqP_ok (pFig_num2 x.frame hf), seqP_err (pGap_no (hd_appL hnm.ne (tok_nb (m := x.isMk) (s := .name 0) hnm).2))]
theorem sh5 (h : RowS x P gl) : BadL ((txt P gl).take (pos P (P.length - 2) + 1) ++ ([32] ++ (txt P gl).drop (pos P (P.length - 2) + 1))) (((pos P (P.length - 2) + 1 : Nat) : Int) + 1) := by
  obtain ⟨g, n, nm, vs, hk, r⟩ := h.toSt
  obtain ⟨h1, h2⟩ := take_tok (gl := gl) hk
  obtain ⟨_, e2, _⟩ := at_tok (gl := gl) hk
  have a : (txt P gl).take (pos P (P.length - 2) + 1) = (txt P gl).take (pos P (P.length - 2)) ++ [45] := by
    rw [List.take_add, h2]
    rfl
  have b : (txt P gl).drop (pos P (P.length - 2) + 1) = 62 :: (sp (P.drop (P.length - 2 + 1)) ++ List.replicate gl 32) := by
    rw [← List.drop_drop, h2]
    rfl
  have hl : ((txt P gl).take (pos P (P.length - 2) + 1)).length = pos P (P.length - 2) + 1 := by
    rw [a, List.length_append, h1, e2]
    rfl
  refine BadL.mk2 h (u := (txt P gl).take (pos P (P.length - 2) + 1)) (e := [32] ++ (txt P gl).drop (pos P (P.length - 2) + 1)) (by simp) (by simp) rfl ?_ (by rw [hl])
  rw [a, b, List.append_assoc]
  refine r (hd_cons.mpr rfl) ?_
  unfold kTo
  exact seqP_err rfl
theorem wd_ok : ∀ w ∈ WD, w.all inRow = true ∧ (∃ c r, w = c :: r ∧ small c = true) ∧ (∀ c ∈ w, c ≠ 10) ∧ w.length ≤ 10 := by
  intro w hw
  simp only [WD, List.mem_cons, List.not_mem_nil, or_false] at hw
  rcases hw with rfl | rfl | rfl | rfl | rfl | rfl | rfl | rfl | rfl | rfl | rfl | rfl <;> exact ⟨by decide, ⟨_, _, rfl, by decide⟩, by decide, by decide⟩
theorem sh6 (h : RowS x P gl) (hm : x.isMk = false) {w : List Nat} (hw : w ∈ WD) : BadL ((txt P gl).take (pos P 2) ++ (w ++ (txt P gl).drop (pos P 2 + x.name.length))) (((pos P 2 + w.length : Nat) : Int) + 1) := by
  obtain ⟨g2, n, hg2, hk, r⟩ := h.nameSt
  obtain ⟨w1, ⟨c, r', w2, w3⟩, w4, w5⟩ := wd_ok w hw
  obtain ⟨g0, g1, g2', g3, P', hP, _⟩ := h.start
  have e2 := (take_tok2 (gl := gl) hk).2
  refine BadL.mk2 h (u := (txt P gl).take (pos P 2) ++ w) (e := (txt P gl).drop (pos P 2 + x.name.length)) w4 (by omega) (by simp) ?_ ?_
  · refine r (by rw [w2]; exact hd_cons.mpr (by cases e : nb c with
      | true => rfl
      | false =>
        simp [nb] at e
        subst e
        simp [small] at w3)) ?_
    have hF : hd ni ((txt P gl).drop (pos P 2 + x.name.length)) := by
      rw [e2, hP]
      show hd ni (sp ((g3, [40]) :: P') ++ _)
      show hd ni ((List.replicate g3 32 ++ ([40] ++ sp P')) ++ _)
      rw [List.append_assoc]
      exact gap_ni fun _ => hd_cons.mpr rfl
    unfold kName
    rw [hm]
    refine seqP_err ?_
    obtain ⟨h1, h2⟩ := takeW (f := (txt P gl).drop (pos P 2 + x.name.length)) w1 hF
    subst w2
    rw [List.cons_append] at h1 h2 ⊢
    rw [pWord_cons]
    rw [if_pos (show (if false = true then great else small) c = true from w3), h1, h2, if_pos hw]
  · rw [List.length_append, (take_tok hk).1, (at_tok (gl := gl) hk).2.1]
/-! ### a wrong sign -/
def sgn (n k : Nat) (mk : Bool) (prev cur : List Nat) : List Nat :=
  if k = 0 then [98, 107, 120, 90, 48, 55, 40, 41, 44, 45, 62, 95] else if k = 3 then [41, 44, 45, 62] else if k = n - 1 - 1 then [97, 90, 48, 57, 40, 41, 44, 62, 95] else
  if k = 1 ∨ (k = n - 1 ∧ mk = true) then [97, 90, 40, 41, 44, 45, 62, 95] else if k = 2 ∧ mk = false then [65, 90, 48, 57, 40, 41, 44, 45, 62, 95] else
  if prev = [40] then [97, 122, 48, 57, 40, 44, 45, 62, 95] else if cur = [44] ∨ cur = [41] then [40, 45, 62] else [97, 122, 48, 57, 40, 41, 44, 45, 62, 95]
end
end K29
end

section
set_option Elab.async false
set_option linter.all false
set_option maxRecDepth 100000
set_option maxHeartbeats 4000000
namespace K29
open PySem PySem.Spec PyProof.Rows L2 XT
def rank : Sg → Nat
  | .word => 0
  | .num => 1
  | .name _ => 2
  | .opn _ _ => 3
  | _ => 4
theorem rank_step (m : Bool) (s : Sg) (t : List Nat) : min 4 (rank s + 1) ≤ rank (s.step m t) := by
  cases s with
  | vl n nm acc =>
    show _ ≤ rank (if t = [41] then _ else if acc = [] then _ else _)
    split
    · exact Nat.min_le_left _ _
    · split <;> exact Nat.min_le_left _ _
  | word => exact Nat.min_le_right _ _
  | num => exact Nat.min_le_right _ _
  | name n => exact Nat.min_le_right _ _
  | opn n nm => exact Nat.min_le_right _ _
  | com n nm acc => exact Nat.min_le_left _ _
  | to n nm acc => exact Nat.min_le_left _ _
  | ans n nm acc => exact Nat.min_le_left _ _
  | fin x => exact Nat.min_le_left _ _
theorem Ch.rank {m : Bool} {s s' : Sg} {Q : List (List Nat × Nat)} (h : Ch m s Q s') : min 4 (K29.rank s + Q.length) ≤ K29.rank s' := by
  induction h with
  | nil s => simp only [List.length_nil]; omega
  | @cons s t g r s' h1 h2 h3 ih =>
    have := rank_step m s t
    simp only [List.length_cons]
    omega
theorem ch_to {m : Bool} {n : Nat} {nm : List Nat} {vs : List (List Nat)} {Q : List (List Nat × Nat)} {x : CRow} (h : Ch m (.to n nm vs) Q (.fin x)) : Q.length = 2 := by
  cases h with
  | cons h1 h2 h3 =>
    have h3' : Ch m (.ans n nm vs) _ (.fin x) := h3
    cases h3' with
    | cons h4 h5 h6 =>
      generalize e : (Sg.step m (.ans n nm vs) _) = s2 at h6
      cases h6 with
      | nil => rfl
      | cons h7 _ _ =>
        rw [← e] at h7
        exact (show False from h7).elim
theorem ch_ans {m : Bool} {n : Nat} {nm : List Nat} {vs : List (List Nat)} {Q : List (List Nat × Nat)} {x : CRow} (h : Ch m (.ans n nm vs) Q (.fin x)) : Q.length = 1 := by
  cases h with
  | cons h4 h5 h6 =>
    generalize e : (Sg.step m (.ans n nm vs) _) = s2 at h6
    cases h6 with
    | nil => rfl
    | cons h7 _ _ =>
      rw [← e] at h7
      exact (show False from h7).elim
theorem shift_len (P : List (Nat × List Nat)) (gl : Nat) : (shift P gl).length = P.length := by
  have := congrArg List.length (shift_fst P gl)
  simpa using this
section
variable {x : CRow} {P : List (Nat × List Nat)} {gl : Nat}
theorem nb_in {c : Nat} {l : List Nat} (h : c ∈ l) (hl : 32 ∉ l) (r : List Nat) : hd nb (c :: r) := hd_cons.mpr (by
  simp [nb]
  intro e
  subst e
  exact hl h)
theorem kNum_no (m : Bool) {c : Nat} {r : List Nat} (h : fig c = false) : kNum m (c :: r) = .error (c :: r) := by
  unfold kNum
  exact seqP_err (pFig_no (hd_cons.mpr (by simp [h])))
theorem kName_no {m : Bool} (n : Nat) {c : Nat} {r : List Nat} (h : (if m then great else small) c = false) : kName m n (c :: r) = .error (c :: r) := by
  unfold kName
  exact seqP_err (pWord_no (hd_cons.mpr (by rw [h]; rfl)))
theorem kCom_no {m : Bool} (n : Nat) (nm : List Nat) (acc : List (List Nat)) {c : Nat} {r : List Nat} (h : great c = false) : kCom m n nm acc (c :: r) = .error (c :: r) := by
  unfold kCom
  rw [pWord_no (fits := great) (f := c :: r) (hd_cons.mpr (by simp [h]))]
theorem kTo_no {m : Bool} (n : Nat) (nm : List Nat) (vs : List (List Nat)) {c : Nat} {r : List Nat} (h : c ≠ 45) : kTo m n nm vs (c :: r) = .error (c :: r) := by
  unfold kTo
  refine seqP_err ?_
  show (if c = 45 then _ else _) = _
  rw [if_neg h]
theorem kAns_no {m : Bool} (n : Nat) (nm : List Nat) (vs : List (List Nat)) {c : Nat} {r : List Nat} (h : if m then fig c = false else great c = false) : kAns m n nm vs (c :: r) = .error (c :: r) := by
  unfold kAns pAns
  cases m with
  | true =>
    have h' : fig c = false := h
    have e : pFig (c :: r) = .error (c :: r) := pFig_no (hd_cons.mpr (by simp [h']))
    simp only [if_true, e, seqP]
  | false =>
    have h' : great c = false := h
    have e : pWord great (c :: r) = .error (c :: r) := pWord_no (hd_cons.mpr (by simp [h']))
    simp only [Bool.false_eq_true, if_false, e, seqP]
theorem prev_tok (h : RowS x P gl) {k g : Nat} (h1 : 1 ≤ k) (hk : k < P.length) : ∃ g', (shift (P.take k) g).getLast? = some ((toks x).getD (k - 1) [], g') := by
  have e : ((P.take k).map (·.2)).getLast? = some ((toks x).getD (k - 1) []) := by
    rw [List.map_take, h.tks, List.getLast?_eq_getElem?, List.length_take, List.getElem?_take]
    have hf := h.full
    have : min k (toks x).length - 1 = k - 1 := by omega
    rw [this, if_pos (by omega), List.getD_eq_getElem?_getD, List.getElem?_eq_getElem (by omega)]
    rfl
  rw [← shift_fst (P.take k) g, List.getLast?_map] at e
  cases e2 : (shift (P.take k) g).getLast? with
  | none => rw [e2] at e; cases e
  | some p =>
    obtain ⟨t, g'⟩ := p
    rw [e2] at e
    simp at e
    subst e
    exact ⟨g', rfl⟩
theorem step_nil {m : Bool} {s : Sg} {t : List Nat} {n : Nat} {nm : List Nat} (ht : TokOk m s t) (h : s.step m t = .vl n nm []) : t = [40] := by
  cases s with
  | word => cases h
  | num => cases h
  | name n => cases h
  | opn n nm => exact ht
  | vl n nm acc =>
    have e' : (if t = [41] then Sg.to n nm acc else if acc = [] then Sg.vl n nm [t] else Sg.com n nm acc) = .vl _ _ [] := h
    split at e'
    · cases e'
    · split at e' <;> cases e'
  | com n nm acc =>
    have e : acc ++ [t] = [] := by injection h
    simp at e
  | to n nm vs => cases h
  | ans n nm vs => cases h
  | fin x => exact ht.elim
theorem step_com {m : Bool} {s : Sg} {t : List Nat} {n : Nat} {nm : List Nat} {acc : List (List Nat)} (ht : TokOk m s t) (h : s.step m t = .com n nm acc) : t = [44] := by
  cases s with
  | word => cases h
  | num => cases h
  | name n => cases h
  | opn n nm => cases h
  | vl n nm acc =>
    have e' : (if t = [41] then Sg.to n nm acc else if acc = [] then Sg.vl n nm [t] else Sg.com n nm acc) = .com _ _ _ := h
    split at e'
    · cases e'
    · rename_i h41
      split at e'
      · cases e'
      · rename_i ha
        rcases (show t = [41] ∨ (acc = [] ∧ NameOk true t) ∨ (acc ≠ [] ∧ t = [44]) from ht) with e | ⟨e, _⟩ | ⟨_, e⟩
        · exact absurd e h41
        · exact absurd e ha
        · exact e
  | com n nm acc => cases h
  | to n nm vs => cases h
  | ans n nm vs => cases h
  | fin x => exact ht.elim
theorem sh7 (h : RowS x P gl) {k c : Nat} {t : List Nat} (ht : (toks x)[k]? = some t) (hc : c ∈ sgn (toks x).length k x.isMk ((toks x).getD (k - 1) []) t) : BadL ((txt P gl).take (pos P k) ++ ([c] ++ (txt P gl).drop (pos P k))) ((pos P k : Int) + 1) := by
  obtain ⟨g, hk⟩ := tokP h ht
  have hkl := (List.getElem?_eq_some_iff.mp hk).1
  have h7 := h.six
  have hf := h.full
  have hc10 : c ≠ 10 := by
    intro e
    subst e
    unfold sgn at hc
    repeat' split at hc
    all_goals (revert hc; decide)
  have fin : pLine ((txt P gl).take (pos P k) ++ (c :: (txt P gl).drop (pos P k))) = .error (c :: (txt P gl).drop (pos P k)) → BadL ((txt P gl).take (pos P k) ++ ([c] ++ (txt P gl).drop (pos P k))) ((pos P k : Int) + 1) := fun hp => by
    refine BadL.mk2 h (u := (txt P gl).take (pos P k)) (e := c :: (txt P gl).drop (pos P k)) (fun d hd => ?_) (by simp) rfl hp ?_
    · rw [List.mem_singleton] at hd
      rw [hd]
      exact hc10
    · rw [(take_tok hk).1, (at_tok (gl := gl) hk).2.1]
  refine fin ?_
  by_cases k0 : k = 0
  · subst k0
    have hc' : c ∈ [98, 107, 120, 90, 48, 55, 40, 41, 44, 45, 62, 95] := hc
    have hne : c ≠ 32 ∧ c ≠ 109 ∧ c ≠ 97 := by
      refine ⟨?_, ?_, ?_⟩ <;> (intro e; subst e; revert hc'; decide)
    rw [(take_tok hk).1]
    exact pLine_fo hne.1 hne.2.1 hne.2.2
  by_cases k3 : k = 3
  · subst k3
    obtain ⟨s1, c1, c2, tk, r⟩ := h.at hk (by omega)
    have t40 : t = [40] := by rw [toks_eq] at ht; simpa using ht.symm
    subst t40
    obtain ⟨n, nm, rfl⟩ := tok_open tk
    have hc' : c ∈ [41, 44, 45, 62] := hc
    have hne : c ≠ 40 ∧ ni c = true := by
      simp at hc'
      rcases hc' with rfl | rfl | rfl | rfl <;> decide
    exact r (nb_in hc' (by decide) _) (fun _ => .inr (hd_cons.mpr hne.2)) (kOpn_no x.isMk n nm (hd_cons.mpr (by simp [hne.1])))
  by_cases kt : k = (toks x).length - 1 - 1
  · have hc' : c ∈ [97, 90, 48, 57, 40, 41, 44, 62, 95] := by
      unfold sgn at hc
      rw [if_neg k0, if_neg k3, if_pos kt] at hc
      exact hc
    have kt2 : k = P.length - 2 := by omega
    subst kt2
    obtain ⟨g', n, nm, vs, hk2, r⟩ := h.toSt
    exact r (nb_in hc' (by decide) _) (kTo_no n nm vs (by intro e; subst e; revert hc'; decide))
  by_cases ke : k = (toks x).length - 1
  · have ke2 : k = P.length - 1 := by omega
    have ta : t = ansTok x.ans := by
      obtain ⟨g', hk'⟩ := last_at h
      rw [← ke2, hk] at hk'
      simp at hk'
      exact hk'.2
    cases hm : x.isMk with
    | true =>
      have hc' : c ∈ [97, 90, 40, 41, 44, 45, 62, 95] := by
        unfold sgn at hc
        rw [if_neg k0, if_neg k3, if_neg kt, if_pos (.inr ⟨ke, hm⟩)] at hc
        exact hc
      subst ke2
      obtain ⟨g', n, nm, vs, hk2, tk, r⟩ := h.ansSt
      refine r (nb_in hc' (by decide) _) (kAns_no n nm vs ?_)
      rw [hm]
      simp at hc'
      rcases hc' with rfl | rfl | rfl | rfl | rfl | rfl | rfl | rfl <;> decide
    | false =>
      have hprev : (toks x).getD (k - 1) [] = [45, 62] := by
        rw [ke, toks_eq]
        simp
      have hcur : NameOk true t := by
        rw [ta]
        have ha := h.ok.ans
        cases e : x.ans with
        | inl n => rw [e] at ha; rw [ha.1] at hm; cases hm
        | inr w => rw [e] at ha; exact ha.2
      have hc' : c ∈ [97, 122, 48, 57, 40, 41, 44, 45, 62, 95] := by
        unfold sgn at hc
        rw [if_neg k0, if_neg k3, if_neg kt, if_neg (by
          rintro (z | ⟨_, z⟩)
          · omega
          · rw [hm] at z; cases z), if_neg (by rintro ⟨z, _⟩; omega), hprev, if_neg (by decide), if_neg (by
          rintro (z | z)
          · exact name_not hcur rfl z
          · exact name_not hcur rfl z)] at hc
        exact hc
      subst ke2
      obtain ⟨g', n, nm, vs, hk2, tk, r⟩ := h.ansSt
      refine r (nb_in hc' (by decide) _) (kAns_no n nm vs ?_)
      rw [hm]
      simp at hc'
      rcases hc' with rfl | rfl | rfl | rfl | rfl | rfl | rfl | rfl | rfl | rfl <;> decide
  by_cases k1 : k = 1
  · subst k1
    have hc' : c ∈ [97, 90, 40, 41, 44, 45, 62, 95] := by
      unfold sgn at hc
      rw [if_neg k0, if_neg k3, if_neg kt, if_pos (.inl rfl)] at hc
      exact hc
    obtain ⟨g', _, hk2, r⟩ := h.numSt
    refine r (nb_in hc' (by decide) _) (kNum_no x.isMk ?_)
    simp at hc'
    rcases hc' with rfl | rfl | rfl | rfl | rfl | rfl | rfl | rfl <;> decide
  by_cases k2 : k = 2
  · subst k2
    obtain ⟨g', n, _, hk2, r⟩ := h.nameSt
    have tn : t = x.name := by rw [toks_eq] at ht; simpa using ht.symm
    cases hm : x.isMk with
    | false =>
      have hc' : c ∈ [65, 90, 48, 57, 40, 41, 44, 45, 62, 95] := by
        unfold sgn at hc
        rw [if_neg k0, if_neg k3, if_neg kt, if_neg (by
          rintro (z | ⟨z, _⟩)
          · omega
          · omega), if_pos ⟨rfl, hm⟩] at hc
        exact hc
      refine r (nb_in hc' (by decide) _) (kName_no n ?_)
      rw [hm]
      simp at hc'
      rcases hc' with rfl | rfl | rfl | rfl | rfl | rfl | rfl | rfl | rfl | rfl <;> decide
    | true =>
      have hprev : (toks x).getD (2 - 1) [] = TL.numL x.frame := by
        rw [toks_eq]
        rfl
      have hnm := h.ok.name
      have hc' : c ∈ [97, 122, 48, 57, 40, 41, 44, 45, 62, 95] := by
        unfold sgn at hc
        rw [if_neg k0, if_neg k3, if_neg kt, if_neg (by
          rintro (z | ⟨z, _⟩)
          · omega
          · omega), if_neg (by rintro ⟨_, z⟩; rw [hm] at z; cases z), hprev, if_neg (by
          intro z
          exact not_row (c := 40) (r := []) rfl (by rw [← z]; exact num_hd _)), if_neg (by
          rw [tn]
          rintro (z | z)
          · exact name_not hnm rfl z
          · exact name_not hnm rfl z)] at hc
        exact hc
      refine r (nb_in hc' (by decide) _) (kName_no n ?_)
      rw [hm]
      simp at hc'
      rcases hc' with rfl | rfl | rfl | rfl | rfl | rfl | rfl | rfl | rfl | rfl <;> decide
  -- among the values
  obtain ⟨s1, c1, c2, tk, r⟩ := h.at hk (by omega)
  have hr := c1.rank
  rw [shift_len, List.length_take] at hr
  have hr4 : 4 ≤ rank s1 := by
    have : K29.rank Sg.word = 0 := rfl
    omega
  have hl2 : (shift ((g, t) :: P.drop (k + 1)) gl).length = P.length - k := by
    rw [shift_len, List.length_cons, List.length_drop]
    omega
  obtain ⟨g', hprev⟩ := prev_tok (g := g) h (by omega) hkl
  obtain ⟨s0, t0, e0⟩ := c1.last hprev
  have hc2 : c ∈ (if (toks x).getD (k - 1) [] = [40] then [97, 122, 48, 57, 40, 44, 45, 62, 95] else if t = [44] ∨ t = [41] then [40, 45, 62] else [97, 122, 48, 57, 40, 41, 44, 45, 62, 95]) := by
    unfold sgn at hc
    rw [if_neg k0, if_neg k3, if_neg kt, if_neg (by
      rintro (z | ⟨z, _⟩)
      · omega
      · omega), if_neg (by rintro ⟨z, _⟩; omega)] at hc
    exact hc
  cases s1 with
  | word => exact absurd hr4 (by decide)
  | num => exact absurd hr4 (by decide)
  | name n => exact absurd hr4 (by show ¬ 4 ≤ 2; decide)
  | opn n nm => exact absurd hr4 (by show ¬ 4 ≤ 3; decide)
  | vl n nm acc =>
    by_cases hp : (toks x).getD (k - 1) [] = [40]
    · rw [if_pos hp] at hc2
      have ha : acc = [] := by
        rw [hp] at t0 e0
        obtain ⟨n', nm', rfl⟩ := tok_open t0
        have e0' : Sg.vl n nm acc = .vl n' nm' [] := e0
        injection e0'
      subst ha
      refine r (nb_in hc2 (by decide) _) (fun _ => .inl rfl) ?_
      show kVal x.isMk n nm [] _ = _
      have h41 : c ≠ 41 ∧ great c = false := by
        simp at hc2
        rcases hc2 with rfl | rfl | rfl | rfl | rfl | rfl | rfl | rfl | rfl <;> decide
      rw [kVal_nil x.isMk n nm (by simp [h41.1])]
      exact kCom_no n nm [] h41.2
    · rw [if_neg hp] at hc2
      have ha : acc ≠ [] := fun z => by
        subst z
        exact hp (step_nil t0 e0.symm)
      have ht41 : t = [44] ∨ t = [41] := by
        rcases (show t = [41] ∨ (acc = [] ∧ NameOk true t) ∨ (acc ≠ [] ∧ t = [44]) from tk) with e | ⟨e, _⟩ | ⟨_, e⟩
        · exact .inr e
        · exact absurd e ha
        · exact .inl e
      rw [if_pos ht41] at hc2
      have hn : ni c = true ∧ c ≠ 41 ∧ c ≠ 44 := by
        simp at hc2
        rcases hc2 with rfl | rfl | rfl <;> decide
      refine r (nb_in hc2 (by decide) _) (fun _ => .inr (hd_cons.mpr hn.1)) ?_
      exact kVal_no x.isMk n nm ha (hd_cons.mpr (by simp [hn.2.1, hn.2.2]))
  | com n nm acc =>
    have hp := step_com t0 e0.symm
    rw [hp, if_neg (by decide)] at hc2
    have hn : NameOk true t := tk
    rw [if_neg (by
      rintro (z | z)
      · exact name_not hn rfl z
      · exact name_not hn rfl z)] at hc2
    refine r (nb_in hc2 (by decide) _) (fun _ => .inl rfl) ?_
    refine kCom_no n nm acc ?_
    simp at hc2
    rcases hc2 with rfl | rfl | rfl | rfl | rfl | rfl | rfl | rfl | rfl | rfl <;> decide
  | to n nm vs => have := ch_to c2; omega
  | ans n nm vs => have := ch_ans c2; omega
  | fin y => exact tk.elim
end
end K29
end

section
set_option Elab.async false
set_option linter.all false
set_option maxRecDepth 100000
set_option maxHeartbeats 4000000
/-! The law's wrong signs and bent rows. -/
namespace K29
open PySem PySem.Spec PyProof.Rows L2 XT
theorem tOr_of {t u : TT} {σ : L2.St} {H : Hp} {c1 c2 : Bool} {Q : Bool → Hp → Prop} (h1 : ∀ Q : Bool → Hp → Prop, Q c1 H → t σ H Q) (h2 : c1 = false → ∀ Q : Bool → Hp → Prop, Q c2 H → u σ H Q) (h : Q (c1 || c2) H) : tOr t u σ H Q := by
  refine h1 _ ?_
  cases c1 with
  | true => exact iteT h
  | false => exact iteF (h2 rfl _ h)
theorem tAnd_of {t u : TT} {σ : L2.St} {H : Hp} {c1 c2 : Bool} {Q : Bool → Hp → Prop} (h1 : ∀ Q : Bool → Hp → Prop, Q c1 H → t σ H Q) (h2 : c1 = true → ∀ Q : Bool → Hp → Prop, Q c2 H → u σ H Q) (h : Q (c1 && c2) H) : tAnd t u σ H Q := by
  refine h1 _ ?_
  cases c1 with
  | true => exact iteT (h2 rfl _ h)
  | false => exact iteF h
theorem seqIf {c : TT} {t u r : TS} {D : Ends} {σ : L2.St} {H : Hp} (h : c σ H fun b H1 => if b = true then t { D with nx := r D } σ H1 else u { D with nx := r D } σ H1) : tSeq (tIfS c t u) r D σ H := h
theorem tNext_eq (D : Ends) : tNext D = D.nx := rfl
theorem dec_int (a b : Int) : decide (V.int a = V.int b) = decide (a = b) := by
  by_cases h : a = b
  · subst h; simp
  · have : ¬ V.int a = V.int b := fun e => h (V.int.inj e)
    rw [decide_eq_false h, decide_eq_false this]
theorem at_stV {ts : List (List Nat)} {k : Nat} {t : List Nat} (h : ts[k]? = some t) : atI (stV ts) (k : Int) = some (.str (tx t)) := atI_nat (by rw [stV, List.getElem?_map, h]; rfl)
theorem z_partA (m : Bool) : decide (V.str (tx (partL m)) = V.str (tx [97, 99, 116])) = !m := by
  rw [dec_tx]
  cases m <;> rfl
def spSigns (K : PySem.W.Frag) : Sp := fun vs H Q _ => ∃ (t : Addr) (ts : List (List Nat)) (k : Nat) (c : List Nat) (m : Bool), vs = [.ref t, .int k] ∧ ts[0]? = some (partL m) ∧ H t = some (.lst (stV ts)) ∧ ts[k]? = some c ∧ 7 ≤ ts.length ∧ ts.length ≤ 1000 ∧
  ∀ H', Same H H' → Q (.str (tx (sgn ts.length k m (ts.getD (k - 1) []) c))) H'
section
variable {w : World} {K : PySem.W.Frag} {mg : Str → Option Value} {base : Heap}
theorem ok_signs (T : Txt K mg) : FnOk Pg w K mg base CX0 1 (aLawSigns K) (fdLawSigns K) PLawSigns (spSigns K) := by
  refine (fLawSigns T).ok0 scLawSigns (fun vs H Q E h => ?_) (fun cdv A outer s H vs Q E hr h => ?_)
  · obtain ⟨t, ts, k, c, m, rfl, _⟩ := h
    rfl
  · obtain ⟨t, ts, k, c, m, rfl, hw, ht, hc, h7, hl, kk⟩ := h
    refine ⟨_, (pss_cons (ps_set (i := 2) scLawSigns.nd rfl (Or.inl rfl) (pe_op op_sub (pe_callB call_len_seq (by rfl) (nLen T) PySem.boot_len (pa_cons (pv 0) pa_nil)) pe_int))
(pss_cons (ps_if (pt_cmpR op_eq (pv 1) pe_int (by rfl))
(pss_one (ps_ret pe_str))
pss_nil)
(pss_cons (ps_if (pt_cmpR op_eq (pv 1) pe_int (by rfl))
(pss_one (ps_ret pe_str))
pss_nil)
(pss_cons (ps_if (pt_cmpR op_eq (pv 1) (pe_op op_sub (pv 2) pe_int) (by rfl))
(pss_one (ps_ret pe_str))
pss_nil)
(pss_cons (ps_if (PW.pt (pw_or (pt_cmpR op_eq (pv 1) pe_int (by rfl)) (pw_or1 (PW.pt (pw_and (pt_cmpR op_eq (pv 1) (pv 2) (by rfl)) (pw_and1 (pt_cmpR op_eq (pe_ix ix_list (pv 0) pe_int (fun _ _ => rfl)) pe_str (by rfl))))))))
(pss_one (ps_ret pe_str))
pss_nil)
(pss_cons (ps_if (PW.pt (pw_and (pt_cmpR op_eq (pv 1) pe_int (by rfl)) (pw_and1 (pt_cmpR op_eq (pe_ix ix_list (pv 0) pe_int (fun _ _ => rfl)) pe_str (by rfl)))))
(pss_one (ps_ret pe_str))
pss_nil)
(pss_cons (ps_if (pt_cmpR op_eq (pe_ix ix_list (pv 0) (pe_op op_sub (pv 1) pe_int) (fun _ _ => rfl)) pe_str (by rfl))
(pss_one (ps_ret pe_str))
pss_nil)
(pss_cons (ps_if (pt_cmpR op_in_seq (pe_ix ix_list (pv 0) (pv 1) (fun _ _ => rfl)) (pe_tup (pa_cons pe_str (pa_cons pe_str pa_nil))) (by rfl))
(pss_one (ps_ret pe_str))
pss_nil)
(pss_one (ps_ret pe_str)))))))))), ?_⟩
    have hk := (List.getElem?_eq_some_iff.mp hc).1
    refine ⟨_, rfl, t, _, rfl, .inl (SqL.of ht), _, _, rfl, rfl, ?_⟩
    have ln : ((stV ts).length : Int) - 1 = ((ts.length - 1 : Nat) : Int) := by rw [stV_len]; omega
    refine ⟨_, rfl, rfl, _, rfl, ite2 (fun d => ?_) (fun d => ?_)⟩
    · have hk0 : k = 0 := by have := V.int.inj (of_decide_eq_true d); omega
      have e : tx (sgn ts.length k m (ts.getD (k - 1) []) c) = "bkxZ07(),->_" := by
        unfold sgn
        rw [if_pos hk0]
        decide +kernel
      rw [e] at kk
      exact kk H (Same.refl H)
    have k0 : ¬ k = 0 := fun e => d (by rw [e]; rfl)
    refine ⟨_, rfl, rfl, _, rfl, ite2 (fun d3 => ?_) (fun d3 => ?_)⟩
    · have hk3 : k = 3 := by have := V.int.inj (of_decide_eq_true d3); omega
      have e : tx (sgn ts.length k m (ts.getD (k - 1) []) c) = "),->" := by
        unfold sgn
        rw [if_neg k0, if_pos hk3]
        decide +kernel
      rw [e] at kk
      exact kk H (Same.refl H)
    have k3 : ¬ k = 3 := fun e => d3 (by rw [e]; rfl)
    refine ⟨_, rfl, _, rfl, _, _, rfl, rfl, rfl, _, rfl, ite2 (fun dt => ?_) (fun dt => ?_)⟩
    · have hkt : k = ts.length - 1 - 1 := by
        have := V.int.inj (of_decide_eq_true dt)
        omega
      have e : tx (sgn ts.length k m (ts.getD (k - 1) []) c) = "aZ09(),>_" := by
        unfold sgn
        rw [if_neg k0, if_neg k3, if_pos hkt]
        decide +kernel
      rw [e] at kk
      exact kk H (Same.refl H)
    have kt : ¬ k = ts.length - 1 - 1 := fun e => dt (decide_eq_true (congrArg V.int (by omega)))
    have hw0 := at_stV hw
    -- k == 1 or (k == last and tokens[0] == "make")
    rw [tNext_eq]
    dsimp only
    refine seqIf ?_
    refine tOr_of (c1 := decide (k = 1)) (c2 := (decide (k = ts.length - 1) && m)) (fun Q q => ⟨_, rfl, rfl, _, rfl, ?_⟩) (fun _ Q q => tAnd_of (c1 := decide (k = ts.length - 1)) (c2 := m) (fun Q q => ⟨_, rfl, _, rfl, rfl, _, rfl, ?_⟩) (fun _ Q q => ⟨_, rfl, t, _, _, _, rfl, rfl, SqL.of ht, hw0, rfl, _, rfl, ?_⟩) q) ?_
    · rw [dec_int, show decide ((k : Int) = 1) = decide (k = 1) from decide_eq_decide.mpr (by omega)]
      exact q
    · show Q (decide (V.int (k : Int) = V.int (((stV ts).length : Int) - 1))) H
      rw [dec_int, show decide ((k : Int) = ((stV ts).length : Int) - 1) = decide (k = ts.length - 1) from decide_eq_decide.mpr (by omega)]
      exact q
    · rw [z_make, z_part]
      exact q
    refine ite2 (fun e1 => ?_) (fun e1 => ?_)
    · have hb : k = 1 ∨ (k = ts.length - 1 ∧ m = true) := by simpa using e1
      have e : tx (sgn ts.length k m (ts.getD (k - 1) []) c) = "aZ(),->_" := by
        unfold sgn
        rw [if_neg k0, if_neg k3, if_neg kt, if_pos hb]
        decide +kernel
      rw [e] at kk
      exact kk H (Same.refl H)
    have nb1 : ¬ (k = 1 ∨ (k = ts.length - 1 ∧ m = true)) := by simpa using e1
    rw [tNext_eq]
    dsimp only
    refine seqIf ?_
    refine tAnd_of (c1 := decide (k = 2)) (c2 := !m) (fun Q q => ⟨_, rfl, rfl, _, rfl, ?_⟩) (fun _ Q q => ⟨_, rfl, t, _, _, _, rfl, rfl, SqL.of ht, hw0, rfl, _, rfl, ?_⟩) ?_
    · rw [dec_int, show decide ((k : Int) = 2) = decide (k = 2) from decide_eq_decide.mpr (by omega)]
      exact q
    · rw [z_act, z_partA]
      exact q
    refine ite2 (fun e2 => ?_) (fun e2 => ?_)
    · have hb : k = 2 ∧ m = false := by simpa using e2
      have e : tx (sgn ts.length k m (ts.getD (k - 1) []) c) = "AZ09(),->_" := by
        unfold sgn
        rw [if_neg k0, if_neg k3, if_neg kt, if_neg nb1, if_pos hb]
        decide +kernel
      rw [e] at kk
      exact kk H (Same.refl H)
    have nb2 : ¬ (k = 2 ∧ m = false) := by simpa using e2
    have hp : ts[k - 1]? = some (ts.getD (k - 1) []) := by
      rw [List.getD_eq_getElem?_getD, List.getElem?_eq_getElem (by omega)]
      rfl
    have ek : ((k : Int) - 1) = ((k - 1 : Nat) : Int) := by omega
    refine ⟨_, rfl, _, rfl, _, _, rfl, rfl, t, _, _, .str (tx (ts.getD (k - 1) [])), rfl, rfl, SqL.of ht, by rw [ek]; exact at_stV hp, rfl, _, rfl, ?_⟩
    rw [z_op, dec_tx]
    refine ite2 (fun e3 => ?_) (fun e3 => ?_)
    · have hb : ts.getD (k - 1) [] = [40] := of_decide_eq_true e3
      have e : tx (sgn ts.length k m (ts.getD (k - 1) []) c) = "az09(,->_" := by
        unfold sgn
        rw [if_neg k0, if_neg k3, if_neg kt, if_neg nb1, if_neg nb2, if_pos hb]
        decide +kernel
      rw [e] at kk
      exact kk H (Same.refl H)
    have nb3 : ¬ (ts.getD (k - 1) [] = [40]) := fun z => e3 (decide_eq_true z)
    refine ⟨_, rfl, _, rfl, t, _, _, _, rfl, rfl, SqL.of ht, at_stV hc, szL (n := 2) rfl (by decide), fun p hp2 => ⟨p, _, rfl, .inr (SqT.of upd_same), rfl, rfl, _, rfl, ?_⟩⟩
    have S2 : Same H (L2.upd H p (.tup [.str ",", .str ")"])) := fun b o e => by rw [upd_ne (ne_of_none e hp2)]; exact e
    have ein : inV (.str (tx c)) [.str ",", .str ")"] = decide (c = [44] ∨ c = [41]) := by
      have e2 : ([.str ",", .str ")"] : List V) = [[44], [41]].map fun w => V.str (tx w) := by decide +kernel
      rw [e2, in_strs]
      exact decide_eq_decide.mpr (by simp)
    rw [if_neg (by simp), ein]
    refine ite2 (fun e4 => ?_) (fun e4 => ?_)
    · have hb : c = [44] ∨ c = [41] := of_decide_eq_true e4
      have e : tx (sgn ts.length k m (ts.getD (k - 1) []) c) = "(->" := by
        unfold sgn
        rw [if_neg k0, if_neg k3, if_neg kt, if_neg nb1, if_neg nb2, if_neg nb3, if_pos hb]
        decide +kernel
      rw [e] at kk
      exact kk _ S2
    · have nb4 : ¬ (c = [44] ∨ c = [41]) := fun z => e4 (decide_eq_true z)
      have e : tx (sgn ts.length k m (ts.getD (k - 1) []) c) = "az09(),->_" := by
        unfold sgn
        rw [if_neg k0, if_neg k3, if_neg kt, if_neg nb1, if_neg nb2, if_neg nb3, if_neg nb4]
        decide +kernel
      rw [e] at kk
      exact kk _ S2
end
end K29
end

section
set_option Elab.async false
set_option linter.all false
set_option maxRecDepth 100000
set_option maxHeartbeats 4000000
/-! The law's bent rows. -/
namespace K29
open PySem PySem.Spec PyProof.Rows L2 XT
theorem stL_get : ∀ (P : List (Nat × List Nat)) (n k : Nat) (p : Nat × List Nat), P[k]? = some p → (stL n P)[k]? = some (n + pos P k)
  | [], _, _, _, h => by simp at h
  | (g, t) :: r, n, 0, p, h => by simp [stL, pos, sp]
  | (g, t) :: r, n, k + 1, p, h => by
    have h' : r[k]? = some p := by simpa using h
    have ih := stL_get r (n + g + t.length) k p h'
    show (stL (n + g + t.length) r)[k]? = _
    rw [ih]
    have e : pos ((g, t) :: r) (k + 1) = g + (t.length + pos r k) := by
      unfold pos
      simp [sp]
      omega
    rw [e]
    congr 1
    omega
theorem at_st {P : List (Nat × List Nat)} {k : Nat} {p : Nat × List Nat} (h : P[k]? = some p) : atI ((stL 0 P).map fun n => V.int (n : Nat)) (k : Int) = some (.int ((pos P k : Nat) : Int)) := atI_nat (by rw [List.getElem?_map, stL_get P 0 k p h, Nat.zero_add]; rfl)
theorem cut_from (l : List Nat) (i : Nat) : cutS (tx l) (some (i : Int)) none = tx (l.drop i) := by
  have h := cut_tx l i l.length
  rw [List.take_length] at h
  rw [← h]
  unfold cutS
  have e : HT.sIx (tx l).length (tx l).length none = HT.sIx (tx l).length (tx l).length (some ((l.length : Nat) : Int)) := by
    unfold HT.sIx
    rw [tx_len]
    first
      | (simp; done)
      | (simp; omega)
      | (split <;> omega)
  rw [e]
theorem pos_le {P : List (Nat × List Nat)} {gl k : Nat} {p : Nat × List Nat} (h : P[k]? = some p) : pos P k + p.2.length ≤ (txt P gl).length := by
  obtain ⟨g, t⟩ := p
  obtain ⟨_, e1, e2⟩ := at_tok (gl := gl) h
  rw [e2, List.length_append, e1, List.length_append]
  show pos P k + t.length ≤ _
  omega
theorem pos_first {x : CRow} {P : List (Nat × List Nat)} {gl : Nat} (h : RowS x P gl) : pos P 0 < pos P (P.length - 1) := by
  obtain ⟨g0, g1, g2, g3, P', hP, _⟩ := h.start
  have h7 := h.six
  have e0 : pos P 0 = g0 := by rw [hP]; simp [pos, sp]
  have hl : (partL x.isMk).length ≥ 3 := by cases x.isMk <;> decide
  rw [e0]
  unfold pos
  rw [hP]
  have : ∃ j, ((g0, partL x.isMk) :: (g1, TL.numL x.frame) :: (g2, x.name) :: (g3, [40]) :: P').length - 1 = j + 1 := ⟨P'.length + 2, by simp⟩
  obtain ⟨j, hj⟩ := this
  rw [hj, List.take_succ_cons]
  simp only [sp, List.length_append, List.length_replicate]
  omega
theorem cut_len (z : Str) (lo hi : Option Int) : (cutS z lo hi).length ≤ z.length := by
  have e : z.length = z.cps.toList.length := by rw [tx_of z, tx_len, tx_list]
  unfold cutS
  rw [e]
  show (tx _).length ≤ _
  rw [tx_len]
  simp only [List.length_take, List.length_drop]
  omega
theorem app_len (a b : Str) : (a ++ b).length = a.length + b.length := by
  rw [tx_of a, tx_of b, tx_app, tx_len, tx_len, tx_len, List.length_append]
theorem z_bads : ("#?.;:=|{}*[]<!&/+~^\t'" : Str) = tx BADS := by decide +kernel
def spBent (K : PySem.W.Frag) : Sp := fun vs H Q _ => ∃ (a b t sl : Addr) (x : CRow) (P : List (Nat × List Nat)) (gl : Nat), vs = [.ref a, .ref t, .str (tx (txt P gl)), .ref sl] ∧ SrcAt H a b ∧ H t = some (.lst (stV (toks x))) ∧ H sl = some (.lst ((stL 0 P).map fun n => .int (n : Nat))) ∧ RowS x P gl ∧ t ≠ a ∧ sl ≠ a ∧
  ∀ r l col H', BadL l col → H' r = some (.tup [.str (tx l), .int col]) → SrcAt H' a b → But a H H' → Q (.ref r) H'
section
variable {w : World} {K : PySem.W.Frag} {mg : Str → Option Value} {base : Heap}
theorem ok_bent (T : Txt K mg) : FnOk Pg w K mg base CX0 3 (aLawBent K) (fdLawBent K) PLawBent (spBent K) := by
  refine (fLawBent T).ok0 scLawBent (fun vs H Q E h => ?_) (fun cdv A outer s H vs Q E hr h => ?_)
  · obtain ⟨a, b, t, sl, x, P, gl, rfl, _⟩ := h
    rfl
  · obtain ⟨a, b, t, sl, x, P, gl, rfl, hs, ht, hsl, R, hta, hsa, k⟩ := h
    have hr1 : Room 1 _ := hr.mono (by decide)
    have hr2 : Room 2 _ := hr.mono (by decide)
    refine ⟨_, (pss_cons (ps_set (i := 4) scLawBent.nd rfl (Or.inl rfl) (pe_op op_sub (pe_callB call_len_seq (by rfl) (nLen T) PySem.boot_len (pa_cons (pv 1) pa_nil)) pe_int))
(pss_cons (ps_set (i := 5) scLawBent.nd rfl (Or.inl rfl) (pe_call (ok_draw T) hr1 rfl (gLawDraw T) (fLawDraw T).kp (bLawDraw T) .nil pass0 (pa_cons (pv 0) (pa_cons pe_int pa_nil))))
(pss_cons (ps_if (pt_cmpR op_eq (pv 5) pe_int (by rfl))
(pss_cons (ps_set (i := 7) scLawBent.nd rfl (Or.inl rfl) (pe_op op_add (pe_op op_add (pe_ix ix_list (pv 3) pe_int (fun _ _ => rfl)) pe_int) (pe_call (ok_draw T) hr1 rfl (gLawDraw T) (fLawDraw T).kp (bLawDraw T) .nil pass0 (pa_cons (pv 0) (pa_cons (pe_op op_sub (pe_ix ix_list (pv 3) (pv 4) (fun _ _ => rfl)) (pe_ix ix_list (pv 3) pe_int (fun _ _ => rfl))) pa_nil)))))
(pss_one (ps_ret (pe_tup (pa_cons (pe_slice sl_str (pv 2) po_none (po_some (pv 7))) (pa_cons (pe_op op_add (pv 7) pe_int) pa_nil))))))
pss_nil)
(pss_cons (ps_if (pt_cmpR op_eq (pv 5) pe_int (by rfl))
(pss_cons (ps_set (i := 7) scLawBent.nd rfl (Or.inl rfl) (pe_call (ok_draw T) hr1 rfl (gLawDraw T) (fLawDraw T).kp (bLawDraw T) .nil pass0 (pa_cons (pv 0) (pa_cons (pe_op op_add (pe_callB call_len_str (by rfl) (nLen T) PySem.boot_len (pa_cons (pv 2) pa_nil)) pe_int) pa_nil))))
(pss_one (ps_ret (pe_tup (pa_cons (pe_op op_add_str (pe_op op_add_str (pe_slice sl_str (pv 2) po_none (po_some (pv 7))) (pe_call (ok_pick T) hr2 rfl (gLawPick T) (fLawPick T).kp (bLawPick T) .nil pass0 (pa_cons (pv 0) (pa_cons pe_str pa_nil)))) (pe_slice sl_str (pv 2) (po_some (pv 7)) po_none)) (pa_cons (pe_op op_add (pv 7) pe_int) pa_nil))))))
pss_nil)
(pss_cons (ps_if (pt_cmpR op_eq (pv 5) pe_int (by rfl))
(pss_cons (ps_set (i := 8) scLawBent.nd rfl (Or.inl rfl) (pe_call (ok_pickT T) hr2 rfl (gLawPick T) (fLawPick T).kp (bLawPick T) .nil pass0 (pa_cons (pv 0) (pa_cons (pe_tup (pa_cons pe_str (pa_cons pe_str (pa_cons pe_str (pa_cons pe_str (pa_cons pe_str (pa_cons pe_str (pa_cons pe_str (pa_cons pe_str pa_nil))))))))) pa_nil))))
(pss_one (ps_ret (pe_tup (pa_cons (pe_op op_add_str (pv 2) (pv 8)) (pa_cons (pe_op op_add (pe_op op_add (pe_callB call_len_str (by rfl) (nLen T) PySem.boot_len (pa_cons (pv 2) pa_nil)) pe_int) (pe_callTy call_int1 (by rfl) (nInt T) (by decide +kernel) (pa_cons (pe_cmpR op_eq (pe_ix ix_str (pv 8) pe_int (fun _ _ => rfl)) pe_str (by rfl)) pa_nil))) pa_nil))))))
pss_nil)
(pss_cons (ps_if (pt_cmpR op_eq (pv 5) pe_int (by rfl))
(pss_cons (ps_set (i := 7) scLawBent.nd rfl (Or.inl rfl) (pe_ix ix_list (pv 3) (pe_ix ix_tup (pe_tup (pa_cons pe_int (pa_cons (pv 4) pa_nil))) (pe_op op_mul (pe_callTy call_int1 (by rfl) (nInt T) (by decide +kernel) (pa_cons (pe_cmpR op_eq (pe_ix ix_list (pv 1) pe_int (fun _ _ => rfl)) pe_str (by rfl)) pa_nil)) (pe_call (ok_draw T) hr1 rfl (gLawDraw T) (fLawDraw T).kp (bLawDraw T) .nil pass0 (pa_cons (pv 0) (pa_cons pe_int pa_nil)))) (fun _ _ => rfl)) (fun _ _ => rfl)))
(pss_one (ps_ret (pe_tup (pa_cons (pe_op op_add_str (pe_op op_add_str (pe_slice sl_str (pv 2) po_none (po_some (pv 7))) pe_str) (pe_slice sl_str (pv 2) (po_some (pv 7)) po_none)) (pa_cons (pe_op op_add (pv 7) pe_int) pa_nil))))))
pss_nil)
(pss_cons (ps_if (pt_cmpR op_eq (pv 5) pe_int (by rfl))
(pss_cons (ps_set (i := 6) scLawBent.nd rfl (Or.inl rfl) (pe_call (ok_draw T) hr1 rfl (gLawDraw T) (fLawDraw T).kp (bLawDraw T) .nil pass0 (pa_cons (pv 0) (pa_cons pe_int pa_nil))))
(pss_cons (ps_set (i := 7) scLawBent.nd rfl (Or.inl rfl) (pe_op op_add (pe_ix ix_list (pv 3) (pv 6) (fun _ _ => rfl)) (pe_callB call_len_str (by rfl) (nLen T) PySem.boot_len (pa_cons (pe_ix ix_list (pv 1) (pv 6) (fun _ _ => rfl)) pa_nil))))
(pss_one (ps_ret (pe_tup (pa_cons (pe_op op_add_str (pe_slice sl_str (pv 2) po_none (po_some (pv 7))) (pe_slice sl_str (pv 2) (po_some (pe_ix ix_list (pv 3) (pe_op op_add (pv 6) pe_int) (fun _ _ => rfl))) po_none)) (pa_cons (pe_op op_add (pv 7) pe_int) pa_nil)))))))
pss_nil)
(pss_cons (ps_if (pt_cmpR op_eq (pv 5) pe_int (by rfl))
(pss_cons (ps_set (i := 7) scLawBent.nd rfl (Or.inl rfl) (pe_op op_add (pe_ix ix_list (pv 3) (pe_op op_sub (pv 4) pe_int) (fun _ _ => rfl)) pe_int))
(pss_one (ps_ret (pe_tup (pa_cons (pe_op op_add_str (pe_op op_add_str (pe_slice sl_str (pv 2) po_none (po_some (pv 7))) pe_str) (pe_slice sl_str (pv 2) (po_some (pv 7)) po_none)) (pa_cons (pe_op op_add (pv 7) pe_int) pa_nil))))))
pss_nil)
(pss_cons (ps_if (PW.pt (pw_and (pt_cmpR op_eq (pv 5) pe_int (by rfl)) (pw_and1 (pt_cmpR op_eq (pe_ix ix_list (pv 1) pe_int (fun _ _ => rfl)) pe_str (by rfl)))))
(pss_cons (ps_set (i := 9) scLawBent.nd rfl (Or.inl rfl) (pe_tup (pa_cons pe_str (pa_cons pe_str (pa_cons pe_str (pa_cons pe_str (pa_cons pe_str (pa_cons pe_str (pa_cons pe_str (pa_cons pe_str (pa_cons pe_str (pa_cons pe_str (pa_cons pe_str (pa_cons pe_str pa_nil))))))))))))))
(pss_cons (ps_set (i := 10) scLawBent.nd rfl (Or.inl rfl) (pe_call (ok_pickT T) hr2 rfl (gLawPick T) (fLawPick T).kp (bLawPick T) .nil pass0 (pa_cons (pv 0) (pa_cons (pv 9) pa_nil))))
(pss_cons (ps_set (i := 7) scLawBent.nd rfl (Or.inl rfl) (pe_op op_add (pe_ix ix_list (pv 3) pe_int (fun _ _ => rfl)) (pe_callB call_len_str (by rfl) (nLen T) PySem.boot_len (pa_cons (pv 10) pa_nil))))
(pss_one (ps_ret (pe_tup (pa_cons (pe_op op_add_str (pe_op op_add_str (pe_slice sl_str (pv 2) po_none (po_some (pe_ix ix_list (pv 3) pe_int (fun _ _ => rfl)))) (pv 10)) (pe_slice sl_str (pv 2) (po_some (pe_op op_add (pe_ix ix_list (pv 3) pe_int (fun _ _ => rfl)) (pe_callB call_len_str (by rfl) (nLen T) PySem.boot_len (pa_cons (pe_ix ix_list (pv 1) pe_int (fun _ _ => rfl)) pa_nil)))) po_none)) (pa_cons (pe_op op_add (pv 7) pe_int) pa_nil))))))))
pss_nil)
(pss_cons (ps_set (i := 6) scLawBent.nd rfl (Or.inl rfl) (pe_call (ok_draw T) hr1 rfl (gLawDraw T) (fLawDraw T).kp (bLawDraw T) .nil pass0 (pa_cons (pv 0) (pa_cons (pe_callB call_len_seq (by rfl) (nLen T) PySem.boot_len (pa_cons (pv 1) pa_nil)) pa_nil))))
(pss_one (ps_ret (pe_tup (pa_cons (pe_op op_add_str (pe_op op_add_str (pe_slice sl_str (pv 2) po_none (po_some (pe_ix ix_list (pv 3) (pv 6) (fun _ _ => rfl)))) (pe_call (ok_pick T) hr2 rfl (gLawPick T) (fLawPick T).kp (bLawPick T) .nil pass0 (pa_cons (pv 0) (pa_cons (pe_call (ok_signs T) hr1 rfl (gLawSigns T) (fLawSigns T).kp (bLawSigns T) .nil pass0 (pa_cons (pv 1) (pa_cons (pv 6) pa_nil))) pa_nil)))) (pe_slice sl_str (pv 2) (po_some (pe_ix ix_list (pv 3) (pv 6) (fun _ _ => rfl))) po_none)) (pa_cons (pe_op op_add (pe_ix ix_list (pv 3) (pv 6) (fun _ _ => rfl)) pe_int) pa_nil))))))))))))))), ?_⟩
    have h7 := R.six
    have hf := R.full
    have hlen := R.len
    have htl := toks_len x R.ok
    refine ⟨_, rfl, t, _, rfl, .inl (SqL.of ht), _, _, rfl, rfl, ?_⟩
    have ln : ((stV (toks x)).length : Int) - 1 = ((P.length - 1 : Nat) : Int) := by rw [stV_len]; omega
    refine ⟨_, rfl, a, b, 8, rfl, hs, by decide, by decide, fun d H1 d0 d1 S1 B1 => ?_⟩
    have T1 := B1 _ _ ht hta
    have L1 := B1 _ _ hsl hsa
    have A0 : atI ((stL 0 P).map fun n => V.int (n : Nat)) 0 = some (.int ((pos P 0 : Nat) : Int)) := by
      obtain ⟨g0, g1, g2, g3, P', hP, _⟩ := R.start
      exact at_st (k := 0) (p := (g0, partL x.isMk)) (by rw [hP]; rfl)
    obtain ⟨ga, hka⟩ := last_at R
    have AL : atI ((stL 0 P).map fun n => V.int (n : Nat)) (((stV (toks x)).length : Int) - 1) = some (.int ((pos P (P.length - 1) : Nat) : Int)) := by
      rw [ln]
      exact at_st hka
    have hpf := pos_first R
    have hpl := pos_le (gl := gl) hka
    have szT : (tx (txt P gl)).length ≤ sizeLine := by rw [tx_len, sizeLine_eq]; omega
    have sz : ∀ a b : Str, a.length ≤ 4000 → b.length ≤ 4000 → a.length + b.length ≤ sizeLine := fun a b h1 h2 => by rw [sizeLine_eq]; omega
    -- cut
    refine ⟨_, rfl, rfl, _, rfl, ite2 (fun c0 => ?_) (fun c0 => ?_)⟩
    · refine ⟨_, rfl, sl, _, 0, _, rfl, rfl, SqL.of L1, A0, _, _, rfl, rfl, _, rfl, _, rfl, _, rfl, sl, _, _, _, rfl, rfl, SqL.of L1, AL, _, rfl, sl, _, 0, _, rfl, rfl, SqL.of L1, A0, _, _, rfl, rfl, ?_⟩
      refine ⟨a, b, _, rfl, S1, by omega, by have := lt100 (n := pos P (P.length - 1)) (by omega); omega, fun d2 H2 e0 e1 S2 B2 => ?_⟩
      obtain ⟨n, hn⟩ : ∃ n : Nat, ((pos P 0 : Nat) : Int) + 1 + d2 = (n : Int) := ⟨pos P 0 + 1 + d2.toNat, by omega⟩
      refine ⟨_, _, rfl, rfl, _, rfl, _, rfl, (n : Int), congrArg V.int hn, _, rfl, szT, _, rfl, _, _, rfl, rfl, szL (n := 2) rfl (by decide), fun r hr' => ?_⟩
      rw [cut_none]
      refine k r _ _ _ (by rw [hn]; exact sh0 R (by omega) (by omega) (by omega)) upd_same (S2.new hr') ((B1.trans B2).trans (But.new hr'))
    -- a foreign sign
    refine ⟨_, rfl, rfl, _, rfl, ite2 (fun c1 => ?_) (fun c1 => ?_)⟩
    · refine ⟨_, rfl, _, rfl, _, rfl, szT, _, _, rfl, rfl, ?_⟩
      refine ⟨a, b, ((txt P gl).length : Int) + 1, by rw [tx_len]; rfl, S1, by omega, by have := lt100 (n := (txt P gl).length + 1) (by omega); omega, fun d2 H2 e0 e1 S2 B2 => ?_⟩
      obtain ⟨n, rfl⟩ := Int.eq_ofNat_of_zero_le e0
      refine ⟨_, rfl, _, rfl, (n : Int), rfl, _, rfl, szT, _, rfl, a, b, BADS, by rw [← z_bads]; rfl, S2, by decide, by decide, fun c hc H3 S3 B3 => ?_⟩
      refine ⟨_, _, rfl, rfl, sz _ _ (Nat.le_trans (cut_len _ _ _) (by rw [tx_len]; omega)) (by rw [tx_len]; simp), ?_⟩
      refine ⟨_, rfl, _, rfl, (n : Int), rfl, _, rfl, szT, _, _, rfl, rfl, sz _ _ (by rw [app_len, tx_len]; have := cut_len (tx (txt P gl)) none (some (n : Int)); rw [tx_len] at this; simp; omega) (Nat.le_trans (cut_len _ _ _) (by rw [tx_len]; omega)), ?_⟩
      refine ⟨_, rfl, _, _, rfl, rfl, szL (n := 2) rfl (by decide), fun r hr' => ?_⟩
      rw [cut_none, cut_from, tx_app, tx_app, List.append_assoc]
      refine k r _ _ _ (sh1 R (by omega) hc) upd_same (S3.new hr') (((B1.trans B2).trans B3).trans (But.new hr'))
    -- a tail
    refine ⟨_, rfl, rfl, _, rfl, ite2 (fun c2 => ?_) (fun c2 => ?_)⟩
    · refine ⟨_, rfl, szL (n := 8) rfl (by decide), fun p hp => ?_⟩
      have eT : ([.str " x", .str " 0", .str " (", .str "(", .str " ->", .str ",", .str "-", .str ")"] : List V) = TAILS.map fun w => V.str (tx w) := by decide +kernel
      refine ⟨a, b, p, TAILS, rfl, S1.new hp, by rw [← eT]; exact upd_same, by decide, by decide, fun u hu H2 S2 B2 => ?_⟩
      have ul : u.length ≤ 10 ∧ u ≠ [] := by
        simp only [TAILS, List.mem_cons, List.not_mem_nil, or_false] at hu
        rcases hu with rfl | rfl | rfl | rfl | rfl | rfl | rfl | rfl <;> exact ⟨by decide, by decide⟩
      obtain ⟨c, u', hu'⟩ : ∃ c u', u = c :: u' := by
        cases u with
        | nil => exact absurd rfl ul.2
        | cons c u' => exact ⟨c, u', rfl⟩
      refine ⟨_, rfl, _, rfl, _, _, rfl, rfl, sz _ _ (by rw [tx_len]; omega) (by rw [tx_len]; omega), ?_⟩
      refine ⟨_, rfl, _, rfl, szT, _, _, rfl, rfl, _, rfl, _, _, c, rfl, rfl, by rw [tx_len, sizeLine_eq]; omega, by rw [tx_list, hu']; exact atI_nat (j := 0) rfl, ?_⟩
      refine ⟨rfl, .inr ⟨_, rfl, _, _, rfl, rfl, szL (n := 2) rfl (by decide), fun r hr' => ?_⟩⟩
      have ex : (if decide (V.str ⟨#[c]⟩ = V.str " ") = true then (1 : Int) else 0) = ((extra u : Nat) : Int) := by
        rw [z_sp, show V.str ⟨#[c]⟩ = V.str (tx [c]) from rfl, dec_tx, hu']
        unfold extra
        rw [List.take_succ_cons, List.take_zero]
        by_cases h : [c] = [32]
        · rw [decide_eq_true h, if_pos rfl, if_pos h]; rfl
        · rw [decide_eq_false h, if_neg (by simp), if_neg h]; rfl
      refine k r _ _ _ (sh2 R hu) ?_ (S2.new hr') ((B1.trans ((But.new hp).trans B2)).trans (But.new hr'))
      rw [upd_same, tx_app, ← ex, tx_len]
    obtain ⟨g0, g1, g2, g3, P', hP, _⟩ := id R.start
    have tk0 : (toks x)[0]? = some (partL x.isMk) := by rw [toks_eq]; rfl
    have tk1 : (toks x)[1]? = some (TL.numL x.frame) := by rw [toks_eq]; rfl
    have tk2 : (toks x)[2]? = some x.name := by rw [toks_eq]; rfl
    have hmk : decide (V.str (tx (partL x.isMk)) = V.str "make") = x.isMk := by rw [z_make, z_part]
    have hmkA : decide (V.str (tx (partL x.isMk)) = V.str "act") = !x.isMk := by rw [z_act, z_partA]
    -- a nought
    refine ⟨_, rfl, rfl, _, rfl, ite2 (fun c3 => ?_) (fun c3 => ?_)⟩
    · refine ⟨_, rfl, _, rfl, szL (n := 2) rfl (by decide), fun p hp => ?_⟩
      have T2 := (show But a H1 (L2.upd H1 p (.tup [.int 1, .int (((stV (toks x)).length : Int) - 1)])) from But.new hp) _ _ T1 hta
      refine ⟨_, rfl, t, _, 0, _, rfl, rfl, SqL.of T2, at_stV tk0, rfl, .inr ⟨_, rfl, _, rfl, a, b, 2, rfl, S1.new hp, by decide, by decide, fun d2 H2 e0 e1 S2 B2 => ?_⟩⟩
      rw [hmk]
      obtain ⟨j, hj, hj2⟩ : ∃ j : Nat, atI [V.int 1, V.int (((stV (toks x)).length : Int) - 1)] ((if x.isMk = true then (1 : Int) else 0) * d2) = some (V.int (j : Int)) ∧ (j = 1 ∨ (x.isMk = true ∧ j = P.length - 1)) := by
        cases hm : x.isMk with
        | false =>
          refine ⟨1, ?_, .inl rfl⟩
          have e : ((if false = true then (1 : Int) else 0) * d2) = 0 := by simp
          rw [e]
          rfl
        | true =>
          rcases (show d2 = 0 ∨ d2 = 1 by omega) with rfl | rfl
          · exact ⟨1, rfl, .inl rfl⟩
          · refine ⟨P.length - 1, ?_, .inr ⟨rfl, rfl⟩⟩
            rw [← ln]
            rfl
      obtain ⟨pj, hpj⟩ : ∃ pj, P[j]? = some pj := ⟨P[j]'(by rcases hj2 with h | ⟨_, h⟩ <;> omega), List.getElem?_eq_getElem _⟩
      have hple := pos_le (gl := gl) hpj
      have L2' := B2 _ _ (show (L2.upd H1 p (.tup [.int 1, .int (((stV (toks x)).length : Int) - 1)])) sl = _ from by rw [upd_ne (ne_of_none L1 hp)]; exact L1) hsa
      refine ⟨_, _, rfl, rfl, .inl (by split <;> exact ⟨by decide, by decide⟩), p, _, _, _, rfl, rfl, SqT.of (B2 _ _ upd_same (S1.ap hp).1), hj, sl, _, _, _, rfl, rfl, SqL.of L2', at_st hpj, ?_⟩
      refine ⟨_, rfl, _, rfl, _, rfl, _, rfl, szT, _, _, rfl, rfl, sz _ _ (Nat.le_trans (cut_len _ _ _) (by rw [tx_len]; omega)) (by decide +kernel), ?_⟩
      refine ⟨_, rfl, _, rfl, _, rfl, _, rfl, szT, _, _, rfl, rfl, sz _ _ (by
        rw [app_len, z_0, tx_len]
        have := cut_len (tx (txt P gl)) none (some ((pos P j : Nat) : Int))
        rw [tx_len] at this
        simp
        omega) (Nat.le_trans (cut_len _ _ _) (by rw [tx_len]; omega)), ?_⟩
      refine ⟨_, rfl, _, _, rfl, rfl, szL (n := 2) rfl (by decide), fun r hr' => ?_⟩
      rw [cut_none, cut_from, z_0, tx_app, tx_app, List.append_assoc]
      exact k r _ _ _ (sh3 R hj2) upd_same (S2.new hr') ((B1.trans ((But.new hp).trans B2)).trans (But.new hr'))
    -- two in one
    refine ⟨_, rfl, rfl, _, rfl, ite2 (fun c4 => ?_) (fun c4 => ?_)⟩
    · refine ⟨_, rfl, a, b, 2, rfl, S1, by decide, by decide, fun d2 H2 e0 e1 S2 B2 => ?_⟩
      obtain ⟨j, rfl⟩ := Int.eq_ofNat_of_zero_le e0
      have hj : j = 0 ∨ j = 1 := by omega
      obtain ⟨u, hu⟩ : ∃ u, (toks x)[j]? = some u := by
        rcases hj with rfl | rfl
        · exact ⟨_, tk0⟩
        · exact ⟨_, tk1⟩
      obtain ⟨gj, hpj⟩ := tokP R hu
      obtain ⟨pj1, hpj1⟩ : ∃ pj, P[j + 1]? = some pj := ⟨P[j + 1]'(by omega), List.getElem?_eq_getElem _⟩
      have hple := pos_le (gl := gl) hpj
      have hul : u.length ≤ 100 := row_len x R.ok u (List.mem_of_getElem? hu)
      have hple2 := pos_le (gl := gl) hpj1
      have T2 := B2 _ _ T1 hta
      have L2' := B2 _ _ L1 hsa
      have hn : ((pos P j : Nat) : Int) + ((tx u).length : Int) = ((pos P j + u.length : Nat) : Int) := by rw [tx_len]; omega
      have hj1 : ((j : Int) + 1) = ((j + 1 : Nat) : Int) := by omega
      refine ⟨_, rfl, _, rfl, sl, _, _, _, rfl, rfl, SqL.of L2', at_st hpj, _, rfl, _, rfl, t, _, _, _, rfl, rfl, SqL.of T2, at_stV hu, _, rfl, by rw [tx_len, sizeLine_eq]; omega, _, _, rfl, rfl, ?_⟩
      refine ⟨_, rfl, _, rfl, _, congrArg V.int hn, _, rfl, szT, ?_⟩
      refine ⟨_, rfl, _, rfl, _, rfl, _, _, rfl, rfl, sl, _, _, _, rfl, rfl, SqL.of L2', by rw [hj1]; exact at_st hpj1, _, rfl, _, rfl, szT, ?_⟩
      refine ⟨_, _, rfl, rfl, sz _ _ (Nat.le_trans (cut_len _ _ _) (by rw [tx_len]; omega)) (Nat.le_trans (cut_len _ _ _) (by rw [tx_len]; omega)), ?_⟩
      refine ⟨_, rfl, _, _, rfl, rfl, szL (n := 2) rfl (by decide), fun r hr' => ?_⟩
      rw [cut_none, cut_from, tx_app]
      exact k r _ _ _ (by rw [hn]; exact sh4 R hj hu) upd_same (S2.new hr') ((B1.trans B2).trans (But.new hr'))
    -- an arrow in two
    obtain ⟨gt, hkt⟩ := to_at R
    have hplt := pos_le (gl := gl) hkt
    have hplt' : pos P (P.length - 2) + 2 ≤ (txt P gl).length := hplt
    refine ⟨_, rfl, rfl, _, rfl, ite2 (fun c5 => ?_) (fun c5 => ?_)⟩
    · have hl2 : (((stV (toks x)).length : Int) - 1 - 1) = ((P.length - 2 : Nat) : Int) := by omega
      refine ⟨_, rfl, _, rfl, _, _, rfl, rfl, sl, _, _, _, rfl, rfl, SqL.of L1, by rw [hl2]; exact at_st hkt, _, _, rfl, rfl, ?_⟩
      have hn : ((pos P (P.length - 2) : Nat) : Int) + 1 = ((pos P (P.length - 2) + 1 : Nat) : Int) := by omega
      refine ⟨_, rfl, _, rfl, _, congrArg V.int hn, _, rfl, szT, _, _, rfl, rfl, sz _ _ (Nat.le_trans (cut_len _ _ _) (by rw [tx_len]; omega)) (by decide +kernel), ?_⟩
      refine ⟨_, rfl, _, rfl, _, congrArg V.int hn, _, rfl, szT, _, _, rfl, rfl, sz _ _ (by
        rw [app_len, z_sp, tx_len]
        have := cut_len (tx (txt P gl)) none (some ((pos P (P.length - 2) + 1 : Nat) : Int))
        rw [tx_len] at this
        simp
        simp at this
        omega) (Nat.le_trans (cut_len _ _ _) (by rw [tx_len]; omega)), ?_⟩
      refine ⟨_, rfl, _, _, rfl, rfl, szL (n := 2) rfl (by decide), fun r hr' => ?_⟩
      rw [cut_none, cut_from, z_sp, tx_app, tx_app, List.append_assoc]
      exact k r _ _ _ (by rw [hn]; exact sh5 R) upd_same (S1.new hr') (B1.trans (But.new hr'))
    -- a word that no name may be
    rw [tNext_eq]
    dsimp only
    refine seqIf ?_
    refine tAnd_of (c1 := decide (d = 6)) (c2 := !x.isMk) (fun Q q => ⟨_, rfl, rfl, _, rfl, ?_⟩) (fun _ Q q => ⟨_, rfl, t, _, _, _, rfl, rfl, SqL.of T1, at_stV tk0, rfl, _, rfl, ?_⟩) ?_
    · rw [dec_int]
      exact q
    · rw [hmkA]
      exact q
    refine ite2 (fun c6 => ?_) (fun c6 => ?_)
    · have hm : x.isMk = false := by
        have : d = 6 ∧ x.isMk = false := by simpa using c6
        exact this.2
      refine ⟨szL (n := 12) rfl (by decide), fun p hp => ?_⟩
      have eT : ([.str "kind", .str "var", .str "make", .str "act", .str "if", .str "then", .str "else", .str "do", .str "answer", .str "and", .str "or", .str "not"] : List V) = WD.map fun w => V.str (tx w) := by decide +kernel
      refine ⟨_, rfl, _, rfl, a, b, p, WD, rfl, S1.new hp, by rw [← eT]; exact upd_same, by decide, by decide, fun u hu H2 S2 B2 => ?_⟩
      have hul : u.length ≤ 10 := (wd_ok u hu).2.2.2
      have K2 : But a H1 H2 := (But.new hp).trans B2
      have T2 := K2 _ _ T1 hta
      have L2' := K2 _ _ L1 hsa
      have hk2 : P[2]? = some (g2, x.name) := by rw [hP]; rfl
      have hple := pos_le (gl := gl) hk2
      have hple' : pos P 2 + x.name.length ≤ (txt P gl).length := hple
      have hn : ((pos P 2 : Nat) : Int) + ((tx u).length : Int) = ((pos P 2 + u.length : Nat) : Int) := by rw [tx_len]; omega
      have hn2 : ((pos P 2 : Nat) : Int) + ((tx x.name).length : Int) = ((pos P 2 + x.name.length : Nat) : Int) := by rw [tx_len]; omega
      have A2 : atI ((stL 0 P).map fun n => V.int (n : Nat)) 2 = some (.int ((pos P 2 : Nat) : Int)) := at_st (k := 2) hk2
      refine ⟨_, rfl, sl, _, 2, _, rfl, rfl, SqL.of L2', A2, _, rfl, _, rfl, by rw [tx_len, sizeLine_eq]; omega, _, _, rfl, rfl, ?_⟩
      refine ⟨_, rfl, _, rfl, sl, _, 2, _, rfl, rfl, SqL.of L2', A2, _, rfl, _, rfl, szT, _, rfl, _, _, rfl, rfl, sz _ _ (Nat.le_trans (cut_len _ _ _) (by rw [tx_len]; omega)) (by rw [tx_len]; omega), ?_⟩
      refine ⟨_, rfl, _, rfl, sl, _, 2, _, rfl, rfl, SqL.of L2', A2, _, rfl, t, _, 2, _, rfl, rfl, SqL.of T2, at_stV (k := 2) tk2, _, rfl, by rw [tx_len, sizeLine_eq]; omega, _, _, rfl, rfl, _, congrArg V.int hn2, _, rfl, szT, ?_⟩
      refine ⟨_, _, rfl, rfl, sz _ _ (by
        rw [app_len, tx_len]
        have := cut_len (tx (txt P gl)) none (some ((pos P 2 : Nat) : Int))
        rw [tx_len] at this
        omega) (Nat.le_trans (cut_len _ _ _) (by rw [tx_len]; omega)), ?_⟩
      refine ⟨_, rfl, _, _, rfl, rfl, szL (n := 2) rfl (by decide), fun r hr' => ?_⟩
      rw [cut_none, cut_from, tx_app, tx_app, List.append_assoc]
      exact k r _ _ _ (by rw [hn]; exact sh6 R hm hu) upd_same (S2.new hr') ((B1.trans K2).trans (But.new hr'))
    -- a wrong sign
    refine ⟨_, rfl, _, rfl, t, _, rfl, .inl (SqL.of T1), a, b, _, rfl, S1, by rw [stV_len]; omega, by rw [stV_len]; exact lt100 (by omega), fun d2 H2 e0 e1 S2 B2 => ?_⟩
    rw [stV_len] at e1
    obtain ⟨j, rfl⟩ := Int.eq_ofNat_of_zero_le e0
    have hjl : j < (toks x).length := by omega
    obtain ⟨u, hu⟩ : ∃ u, (toks x)[j]? = some u := ⟨_, List.getElem?_eq_getElem hjl⟩
    obtain ⟨gj, hpj⟩ := tokP R hu
    have hple := pos_le (gl := gl) hpj
    have T2 := B2 _ _ T1 hta
    have L2' := B2 _ _ L1 hsa
    refine ⟨_, rfl, _, rfl, _, rfl, sl, _, _, _, rfl, rfl, SqL.of L2', at_st hpj, _, rfl, _, rfl, szT, ?_⟩
    refine ⟨_, rfl, _, rfl, _, rfl, t, _, j, u, x.isMk, rfl, tk0, T2, hu, by omega, by omega, fun H3 S3 => ?_⟩
    have hsg : sgn (toks x).length j x.isMk ((toks x).getD (j - 1) []) u ≠ [] ∧ (sgn (toks x).length j x.isMk ((toks x).getD (j - 1) []) u).length ≤ 1000 := by
      unfold sgn
      repeat' split
      all_goals exact ⟨by decide, by decide⟩
    refine ⟨a, b, _, rfl, S2.keep S3, hsg.1, hsg.2, fun c hc H4 S4 B4 => ?_⟩
    have L4 := B4 _ _ (S3 _ _ L2') hsa
    refine ⟨_, _, rfl, rfl, sz _ _ (Nat.le_trans (cut_len _ _ _) (by rw [tx_len]; omega)) (by rw [tx_len]; simp), ?_⟩
    refine ⟨_, rfl, _, rfl, _, rfl, sl, _, _, _, rfl, rfl, SqL.of L4, at_st hpj, _, rfl, _, rfl, szT, ?_⟩
    refine ⟨_, _, rfl, rfl, sz _ _ (by
        rw [app_len, tx_len]
        have := cut_len (tx (txt P gl)) none (some ((pos P j : Nat) : Int))
        rw [tx_len] at this
        simp
        omega) (Nat.le_trans (cut_len _ _ _) (by rw [tx_len]; omega)), ?_⟩
    refine ⟨_, rfl, _, rfl, sl, _, _, _, rfl, rfl, SqL.of L4, at_st hpj, _, _, rfl, rfl, szL (n := 2) rfl (by decide), fun r hr' => ?_⟩
    rw [cut_none, cut_from, tx_app, tx_app, List.append_assoc]
    exact k r _ _ _ (sh7 R hu hc) upd_same (S4.new hr') ((((B1.trans B2).trans (fun b o e _ => S3 b o e)).trans B4).trans (But.new hr'))
end
end K29
end

section
set_option Elab.async false
set_option linter.all false
set_option maxRecDepth 100000
set_option maxHeartbeats 4000000
/-! The law's comparing. -/
namespace K29
open PySem PySem.Spec PyProof.Rows L2 XT
def FlatL (v u : V) : Prop := v = u ∧ ((∃ i, v = .int i) ∨ ∃ s, v = .str s)
def LikeV (H : Hp) : Nat → V → V → Prop
  | 0, v, u => FlatL v u
  | n + 1, v, u => FlatL v u ∨ ∃ a b xs ys, v = .ref a ∧ u = .ref b ∧ H a = some (.tup xs) ∧ H b = some (.tup ys) ∧ Paired (LikeV H n) xs ys ∧ xs.length ≤ 1000000
theorem LikeV.mono {H H' : Hp} (S : Same H H') : ∀ (n : Nat) {v u : V}, LikeV H n v u → LikeV H' n v u
  | 0, _, _, h => h
  | n + 1, _, _, h => by
    rcases h with h | ⟨a, b, xs, ys, h1, h2, h3, h4, h5, h6⟩
    · exact .inl h
    · exact .inr ⟨a, b, xs, ys, h1, h2, S _ _ h3, S _ _ h4, h5.mono fun v y r => LikeV.mono S n r, h6⟩
theorem FlatL.ty {K : PySem.W.Frag} {H : Hp} {v u : V} (h : FlatL v u) : ∃ (ty : String) (b3 b4 : Bool), TyX K H v (.type ty) ∧ kitB ty "tuple" = some false ∧ kitB ty "bool" = some false ∧ kitB ty "int" = some b3 ∧ kitB ty "str" = some b4 ∧ scal v v = true ∧ v ≠ .non := by
  rcases h.2 with ⟨i, rfl⟩ | ⟨s, rfl⟩
  · exact ⟨"int", true, false, .base (.int i), by decide +kernel, by decide +kernel, by decide +kernel, by decide +kernel, rfl, by intro z; cases z⟩
  · exact ⟨"str", false, true, .base (.str s), by decide +kernel, by decide +kernel, by decide +kernel, by decide +kernel, rfl, by intro z; cases z⟩
theorem retE {te : TE} {D : Ends} {σ : L2.St} {H : Hp} (h : te σ H D.rt) : tRet te D σ H := h
def spLike : Nat → Sp
  | 0 => fun _ _ _ _ => False
  | n + 1 => fun vs H Q _ => ∃ v u, vs = [v, u] ∧ LikeV H n v u ∧ ∀ H', Same H H' → Q (.bl true) H'
section
variable {w : World} {K : PySem.W.Frag} {mg : Str → Option Value} {base : Heap}
theorem passH0 {X : Cx} {σ : L2.St} : PassesAt CX0 X σ E0 := fun pins H s e s' I c => pass0 pins σ H s e s' I c
theorem funH {P : Program} {w : World} {K : PySem.W.Frag} {mg : Str → Option Value} {base : Heap} {x qual : Str} {params : Arguments} {body : List Stmt} {scope : Scope} {dvs : List V} {kws : List (Str × V)} {f : Addr} {fd : FuncData} {N ps : List Str} {k : Nat} {sp : Sp}
    (F : FunD K x qual params body scope dvs kws f fd) (S : FnScope N ps scope) (len : ∀ vs H Q E, sp vs H Q E → vs.length = ps.length)
    (hbody : ∀ (cdv : Value) (A : Around) (outer : List Env) (s : Shared) (H : Hp) (vs : List V) (Q : VK) (E : XK) (p : Addr × Obj), L2H.Hot1 A p → L2H.RoomH k (A.deeper (envOfC qual scope s.heap.objs.size f cdv)) → sp vs H Q E →
      ∃ t, PSs (L2H.cxH CX0 P w K mg base N qual scope f cdv A outer s H E p) body t ∧ t { nx := fun _ H' => Q .non H', rt := Q } (L2.start N vs) H) : L2H.FnH P w K mg base CX0 (k + 1) f fd ps sp := by
  obtain ⟨oc, od, dV, kV, doc, pm, an, cdv, ct, osl, rfl, lk, hcd, _, _⟩ := F.ex
  exact L2H.fn_ofH lk hcd S len fun A outer s H vs Q E p hot hr hsp => hbody cdv A outer s H vs Q E p hot hr hsp
theorem pairBoth {α β : Type} {F : α → β → Prop} : ∀ {l₁ : List α} {l₂ : List β} {i : Nat}, Paired F l₁ l₂ → i < l₂.length → ∃ a b, l₁[i]? = some a ∧ l₂[i]? = some b ∧ F a b
  | _, _, _, .nil, h => by simp at h
  | _, _, 0, .cons r _, _ => ⟨_, _, rfl, rfl, r⟩
  | _, _, i + 1, .cons _ t, h => by
    obtain ⟨a, b, h1, h2, h3⟩ := pairBoth (i := i) t (by simpa using h)
    exact ⟨a, b, by simpa using h1, by simpa using h2, h3⟩
theorem Same.trans' {H H1 H2 : Hp} (a : Same H H1) (b : Same H1 H2) : Same H H2 := fun c o e => b c o (a c o e)
theorem ok_like (T : Txt K mg) : ∀ n, FnOk Pg w K mg base CX0 n (aLawLike K) (fdLawLike K) PLawLike (spLike n) := by
  intro n
  induction n with
  | zero => exact ⟨fun _ _ _ _ h => h.elim, fun _ _ _ _ _ _ _ _ _ _ _ _ _ h => h.elim⟩
  | succ n ih0 =>
    refine (fLawLike T).ok0 scLawLike (fun vs H Q E h => ?_) (fun cdv A outer s H vs Q E hr h => ?_)
    · obtain ⟨v, u, rfl, _⟩ := h
      rfl
    · obtain ⟨v, u, rfl, hl, k⟩ := h
      have ih : Txt K mg → FnOk Pg w K mg base CX0 n (aLawLike K) (fdLawLike K) PLawLike (spLike n) := fun _ => ih0
      refine ⟨_, (pss_cons (ps_if (pt_val (pe_callB call_isi (by rfl) (nIsinstance T) PyProof.Rows.boot_isinstance (pa_cons (pv 1) (pa_cons (pe_bltn (v := .ty "tuple") (by rfl) (nTuple T) (by decide +kernel) rfl) pa_nil))))
(pss_cons (ps_if (PW.pt (pw_or (pt_not (pt_val (pe_callB call_isi (by rfl) (nIsinstance T) PyProof.Rows.boot_isinstance (pa_cons (pv 0) (pa_cons (pe_bltn (v := .ty "tuple") (by rfl) (nTuple T) (by decide +kernel) rfl) pa_nil))))) (pw_or1 (pt_cmpR op_ne (pe_callB call_len_seq (by rfl) (nLen T) PySem.boot_len (pa_cons (pv 0) pa_nil)) (pe_callB call_len_seq (by rfl) (nLen T) PySem.boot_len (pa_cons (pv 1) pa_nil)) (by rfl)))))
(pss_one (ps_ret pe_bl))
pss_nil)
(pss_one (ps_ret (pe_cmpR op_eq (pe_callB call_len_seq (by rfl) (nLen T) PySem.boot_len (pa_cons (pe_lc (te := (tVar 2)) (tt := tB (tCall (spLike n) [] E0 (tCons (tOp (rIxT K) (tVar 0) (tVar 2)) (tCons (tOp (rIxT K) (tVar 1) (tVar 2)) tNil)))) (own := [("k", 2)]) (g := gName 2) (by rfl) scLawLike.nd (pi_range1 (by rfl) (nRange T) (pa_cons (pe_callB call_len_seq (by rfl) (nLen T) PySem.boot_len (pa_cons (pv 1) pa_nil)) pa_nil)) (blkOk_by (N := NLawLike) (sc := defScope sLawLike) (by decide +kernel)) (fun _ _ _ _ _ => (pg_name (i := 2) scLawLike.nd rfl (Or.inl rfl))) (fun _ _ _ _ _ => (pts_one (pt_val (pe_call (ih T) hr rfl (gLawLike T) (fLawLike T).kp (bLawLike T) .nil pass0 (pa_cons (pe_ix ix_tup (pv 0) (pv 2) (fun _ _ => rfl)) (pa_cons (pe_ix ix_tup (pv 1) (pv 2) (fun _ _ => rfl)) pa_nil)))))) (fun _ _ _ _ _ => (pv 2))) pa_nil)) (pe_callB call_len_seq (by rfl) (nLen T) PySem.boot_len (pa_cons (pv 1) pa_nil)) (by rfl)))))
pss_nil)
(pss_cons (ps_if (PW.pt (pw_or (pt_cmpR op_ne (pe_callB call_isi (by rfl) (nIsinstance T) PyProof.Rows.boot_isinstance (pa_cons (pv 0) (pa_cons (pe_bltn (v := .ty "bool") (by rfl) (nBool T) (by decide +kernel) rfl) pa_nil))) (pe_callB call_isi (by rfl) (nIsinstance T) PyProof.Rows.boot_isinstance (pa_cons (pv 1) (pa_cons (pe_bltn (v := .ty "bool") (by rfl) (nBool T) (by decide +kernel) rfl) pa_nil))) (by rfl)) (pw_or1 (pt_cmpR op_ne (pe_callB call_isi (by rfl) (nIsinstance T) PyProof.Rows.boot_isinstance (pa_cons (pv 0) (pa_cons (pe_bltn (v := .ty "int") (by rfl) (nInt T) (by decide +kernel) rfl) pa_nil))) (pe_callB call_isi (by rfl) (nIsinstance T) PyProof.Rows.boot_isinstance (pa_cons (pv 1) (pa_cons (pe_bltn (v := .ty "int") (by rfl) (nInt T) (by decide +kernel) rfl) pa_nil))) (by rfl)))))
(pss_one (ps_ret pe_bl))
pss_nil)
(pss_one (ps_ret (pe_and (pe_cmpR op_eq (pe_callB call_isi (by rfl) (nIsinstance T) PyProof.Rows.boot_isinstance (pa_cons (pv 0) (pa_cons (pe_bltn (v := .ty "str") (by rfl) (nStr T) (by decide +kernel) rfl) pa_nil))) (pe_callB call_isi (by rfl) (nIsinstance T) PyProof.Rows.boot_isinstance (pa_cons (pv 1) (pa_cons (pe_bltn (v := .ty "str") (by rfl) (nStr T) (by decide +kernel) rfl) pa_nil))) (by rfl)) (pe_and (pe_cmpR op_eq (pe_cmpR op_isN (pv 0) pe_non (by rfl)) (pe_cmpR op_isN (pv 1) pe_non (by rfl)) (by rfl)) (pe_one (pe_cmpR op_eq (pv 0) (pv 1) (by rfl))))))))), ?_⟩
      have tt : ∀ {a : Addr} {xs : List V}, H a = some (.tup xs) → TyX K H (.ref a) (.type "tuple") := fun e => .base (.tup e)
      have kt : kitB "tuple" "tuple" = some true := by decide +kernel
      have hl2 : FlatL v u ∨ ∃ a b xs ys, v = .ref a ∧ u = .ref b ∧ H a = some (.tup xs) ∧ H b = some (.tup ys) ∧ (∀ i, i < ys.length → ∃ x y, xs[i]? = some x ∧ ys[i]? = some y ∧ ∀ H' (Q : VK) E, Same H H' → (∀ H2, Same H' H2 → Q (.bl true) H2) → spLike n [x, y] H' Q E) ∧ xs.length = ys.length ∧ xs.length ≤ 1000000 := by
        cases n with
        | zero => exact .inl hl
        | succ m =>
          rcases hl with h | ⟨a, b, xs, ys, h1, h2, h3, h4, h5, h6⟩
          · exact .inl h
          · refine .inr ⟨a, b, xs, ys, h1, h2, h3, h4, fun i hi => ?_, h5.length, h6⟩
            obtain ⟨x, y, e1, e2, r⟩ := pairBoth h5 hi
            exact ⟨x, y, e1, e2, fun H' Q E S q => ⟨x, y, rfl, LikeV.mono S m r, q⟩⟩
      rcases hl2 with hf | ⟨a, b, xs, ys, rfl, rfl, ha, hb, hp, le, lm⟩
      · obtain ⟨ty, b3, b4, tx1, k1, k2, k3, k4, k5, k6⟩ := hf.ty (K := K) (H := H)
        obtain ⟨rfl, _⟩ := hf
        refine ⟨_, rfl, _, _, _, _, false, rfl, .ty _, tx1, kit_ty k1, _, rfl, iteF ?_⟩
        rw [tNext_eq]
        dsimp only
        refine seqIf ?_
        refine tOr_of (c1 := false) (c2 := false) (fun Q q => ⟨_, rfl, _, _, _, _, false, rfl, .ty _, tx1, kit_ty k2, _, rfl, _, _, _, _, false, rfl, .ty _, tx1, kit_ty k2, rfl, _, rfl, q⟩) (fun _ Q q => ⟨_, rfl, _, _, _, _, b3, rfl, .ty _, tx1, kit_ty k3, _, rfl, _, _, _, _, b3, rfl, .ty _, tx1, kit_ty k3, rfl, _, rfl, ?_⟩) ?_
        · rw [decide_eq_true (Eq.refl (V.bl b3))]
          exact q
        refine iteF ?_
        rw [tNext_eq]
        dsimp only
        refine retE ?_
        refine andV (c1 := true) (c2 := true) (fun Q q => ⟨_, rfl, _, _, _, _, b4, rfl, .ty _, tx1, kit_ty k4, _, rfl, _, _, _, _, b4, rfl, .ty _, tx1, kit_ty k4, rfl, ?_⟩) (fun _ Q q => andV (c1 := true) (c2 := true) (fun Q q => ⟨_, rfl, rfl, _, rfl, rfl, rfl, ?_⟩) (fun _ Q q => ⟨_, rfl, _, rfl, k5, ?_⟩) q) (k H (Same.refl H))
        · rw [decide_eq_true (Eq.refl (V.bl b4))]
          exact q
        · rw [decide_eq_true (Eq.refl (V.bl (decide (v = V.non))))]
          exact q
        · rw [decide_eq_true (Eq.refl v)]
          exact q
      · refine ⟨_, rfl, _, _, _, _, true, rfl, .ty _, tt hb, kit_ty kt, _, rfl, iteT ?_⟩
        refine seqIf ?_
        refine tOr_of (c1 := false) (c2 := false) (fun Q q => ⟨_, rfl, _, _, _, _, true, rfl, .ty _, tt ha, kit_ty kt, _, rfl, q⟩) (fun _ Q q => ⟨_, rfl, a, xs, rfl, .inr (SqT.of ha), _, rfl, b, ys, rfl, .inr (SqT.of hb), rfl, _, rfl, ?_⟩) ?_
        · rw [le, decide_eq_true (Eq.refl (V.int (ys.length : Int)))]
          exact q
        refine iteF ?_
        rw [tNext_eq]
        dsimp only
        refine retE ?_
        refine ⟨_, rfl, b, ys, rfl, .inr (SqT.of hb), _, rfl, by omega, by omega, fun D hD => ?_⟩
        refine lc_range (n := ys.length) (fun i H2 => ∃ acc, H2 D = some (.lst acc) ∧ acc.length = i ∧ Same H H2) ⟨[], upd_same, rfl, fun c o e => by rw [upd_ne (ne_of_none e hD)]; exact e⟩ ?_ ?_
        · rintro i H2 hi ⟨acc, hD2, la, S2⟩
          obtain ⟨x, y, e1, e2, sp1⟩ := hp i hi
          have ei : (0 + (i : Int)) = (i : Int) := by omega
          refine ⟨rfl, _, rfl, _, rfl, a, _, _, x, rfl, rfl, SqT.of (S2 _ _ ha), by rw [ei]; exact atI_nat e1, _, rfl, _, rfl, b, _, _, y, rfl, rfl, SqT.of (S2 _ _ hb), by rw [ei]; exact atI_nat e2, ?_⟩
          refine sp1 H2 _ _ S2 fun H3 S3 => ⟨_, rfl, iteT ⟨_, rfl, acc, S3 _ _ hD2, by rw [sizeLine_eq]; omega, acc ++ [_], upd_same, by simp [la], fun c o e => ?_⟩⟩
          rw [upd_ne (ne_of_none e hD)]
          exact S3 _ _ (S2 _ _ e)
        · rintro H2 ⟨acc, hD2, la, S2⟩
          refine ⟨D, acc, rfl, .inl (SqL.of hD2), _, rfl, b, ys, rfl, .inr (SqT.of (S2 _ _ hb)), rfl, ?_⟩
          rw [la, decide_eq_true (Eq.refl (V.int (ys.length : Int)))]
          exact k H2 S2
open L2H HotX
theorem ok_likeH (T : Txt K mg) : ∀ n, FnH Pg w K mg base CX0 n (aLawLike K) (fdLawLike K) PLawLike (spLike n) := by
  intro n
  induction n with
  | zero => exact ⟨fun _ _ _ _ h => h.elim, fun _ _ _ _ _ _ _ _ _ _ _ _ _ _ _ _ h => h.elim⟩
  | succ n ih0 =>
    refine funH (fLawLike T) scLawLike (fun vs H Q E h => ?_) (fun cdv A outer s H vs Q E p hot hr h => ?_)
    · obtain ⟨v, u, rfl, _⟩ := h
      rfl
    · obtain ⟨v, u, rfl, hl, k⟩ := h
      have ih : Txt K mg → FnH Pg w K mg base CX0 n (aLawLike K) (fdLawLike K) PLawLike (spLike n) := fun _ => ih0
      refine ⟨_, (pss_cons (ps_if (pt_val (pe_callB call_isi (by rfl) (nIsinstance T) PyProof.Rows.boot_isinstance (pa_cons (pv 1) (pa_cons (pe_bltn (v := .ty "tuple") (by rfl) (nTuple T) (by decide +kernel) rfl) pa_nil))))
(pss_cons (ps_if (PW.pt (pw_or (pt_not (pt_val (pe_callB call_isi (by rfl) (nIsinstance T) PyProof.Rows.boot_isinstance (pa_cons (pv 0) (pa_cons (pe_bltn (v := .ty "tuple") (by rfl) (nTuple T) (by decide +kernel) rfl) pa_nil))))) (pw_or1 (pt_cmpR op_ne (pe_callB call_len_seq (by rfl) (nLen T) PySem.boot_len (pa_cons (pv 0) pa_nil)) (pe_callB call_len_seq (by rfl) (nLen T) PySem.boot_len (pa_cons (pv 1) pa_nil)) (by rfl)))))
(pss_one (ps_ret pe_bl))
pss_nil)
(pss_one (ps_ret (pe_cmpR op_eq (pe_callB call_len_seq (by rfl) (nLen T) PySem.boot_len (pa_cons (pe_lcH (te := (tVar 2)) (tt := tB (tCallS (spLike n) (fun _ => E0) (tCons (tOp (rIxT K) (tVar 0) (tVar 2)) (tCons (tOp (rIxT K) (tVar 1) (tVar 2)) tNil)))) (own := [("k", 2)]) (g := gName 2) p hot List.mem_cons_self scLawLike.nd (pi_range1H (by rfl) (nRange T) (pa_cons (pe_callB call_len_seq (by rfl) (nLen T) PySem.boot_len (pa_cons (pv 1) pa_nil)) pa_nil)) (blkOk_by (N := NLawLike) (sc := defScope sLawLike) (by decide +kernel)) (fun _ _ _ _ _ => (pg_name (i := 2) scLawLike.nd rfl (Or.inl rfl))) (fun _ _ _ _ _ => (pts_one (pt_val (pe_callH (ih T) hr (hot_blkH hot) rfl (gLawLike T) (fLawLike T).kp (bLawLike T) (fun _ => passH0) (pa_cons (pe_ix ix_tup (pv 0) (pv 2) (fun _ _ => rfl)) (pa_cons (pe_ix ix_tup (pv 1) (pv 2) (fun _ _ => rfl)) pa_nil)))))) (fun _ _ _ _ _ => (pv 2))) pa_nil)) (pe_callB call_len_seq (by rfl) (nLen T) PySem.boot_len (pa_cons (pv 1) pa_nil)) (by rfl)))))
pss_nil)
(pss_cons (ps_if (PW.pt (pw_or (pt_cmpR op_ne (pe_callB call_isi (by rfl) (nIsinstance T) PyProof.Rows.boot_isinstance (pa_cons (pv 0) (pa_cons (pe_bltn (v := .ty "bool") (by rfl) (nBool T) (by decide +kernel) rfl) pa_nil))) (pe_callB call_isi (by rfl) (nIsinstance T) PyProof.Rows.boot_isinstance (pa_cons (pv 1) (pa_cons (pe_bltn (v := .ty "bool") (by rfl) (nBool T) (by decide +kernel) rfl) pa_nil))) (by rfl)) (pw_or1 (pt_cmpR op_ne (pe_callB call_isi (by rfl) (nIsinstance T) PyProof.Rows.boot_isinstance (pa_cons (pv 0) (pa_cons (pe_bltn (v := .ty "int") (by rfl) (nInt T) (by decide +kernel) rfl) pa_nil))) (pe_callB call_isi (by rfl) (nIsinstance T) PyProof.Rows.boot_isinstance (pa_cons (pv 1) (pa_cons (pe_bltn (v := .ty "int") (by rfl) (nInt T) (by decide +kernel) rfl) pa_nil))) (by rfl)))))
(pss_one (ps_ret pe_bl))
pss_nil)
(pss_one (ps_ret (pe_and (pe_cmpR op_eq (pe_callB call_isi (by rfl) (nIsinstance T) PyProof.Rows.boot_isinstance (pa_cons (pv 0) (pa_cons (pe_bltn (v := .ty "str") (by rfl) (nStr T) (by decide +kernel) rfl) pa_nil))) (pe_callB call_isi (by rfl) (nIsinstance T) PyProof.Rows.boot_isinstance (pa_cons (pv 1) (pa_cons (pe_bltn (v := .ty "str") (by rfl) (nStr T) (by decide +kernel) rfl) pa_nil))) (by rfl)) (pe_and (pe_cmpR op_eq (pe_cmpR op_isN (pv 0) pe_non (by rfl)) (pe_cmpR op_isN (pv 1) pe_non (by rfl)) (by rfl)) (pe_one (pe_cmpR op_eq (pv 0) (pv 1) (by rfl))))))))), ?_⟩
      have tt : ∀ {a : Addr} {xs : List V}, H a = some (.tup xs) → TyX K H (.ref a) (.type "tuple") := fun e => .base (.tup e)
      have kt : kitB "tuple" "tuple" = some true := by decide +kernel
      have hl2 : FlatL v u ∨ ∃ a b xs ys, v = .ref a ∧ u = .ref b ∧ H a = some (.tup xs) ∧ H b = some (.tup ys) ∧ (∀ i, i < ys.length → ∃ x y, xs[i]? = some x ∧ ys[i]? = some y ∧ ∀ H' (Q : VK) E, Same H H' → (∀ H2, Same H' H2 → Q (.bl true) H2) → spLike n [x, y] H' Q E) ∧ xs.length = ys.length ∧ xs.length ≤ 1000000 := by
        cases n with
        | zero => exact .inl hl
        | succ m =>
          rcases hl with h | ⟨a, b, xs, ys, h1, h2, h3, h4, h5, h6⟩
          · exact .inl h
          · refine .inr ⟨a, b, xs, ys, h1, h2, h3, h4, fun i hi => ?_, h5.length, h6⟩
            obtain ⟨x, y, e1, e2, r⟩ := pairBoth h5 hi
            exact ⟨x, y, e1, e2, fun H' Q E S q => ⟨x, y, rfl, LikeV.mono S m r, q⟩⟩
      rcases hl2 with hf | ⟨a, b, xs, ys, rfl, rfl, ha, hb, hp, le, lm⟩
      · obtain ⟨ty, b3, b4, tx1, k1, k2, k3, k4, k5, k6⟩ := hf.ty (K := K) (H := H)
        obtain ⟨rfl, _⟩ := hf
        refine ⟨_, rfl, _, _, _, _, false, rfl, .ty _, tx1, kit_ty k1, _, rfl, iteF ?_⟩
        rw [tNext_eq]
        dsimp only
        refine seqIf ?_
        refine tOr_of (c1 := false) (c2 := false) (fun Q q => ⟨_, rfl, _, _, _, _, false, rfl, .ty _, tx1, kit_ty k2, _, rfl, _, _, _, _, false, rfl, .ty _, tx1, kit_ty k2, rfl, _, rfl, q⟩) (fun _ Q q => ⟨_, rfl, _, _, _, _, b3, rfl, .ty _, tx1, kit_ty k3, _, rfl, _, _, _, _, b3, rfl, .ty _, tx1, kit_ty k3, rfl, _, rfl, ?_⟩) ?_
        · rw [decide_eq_true (Eq.refl (V.bl b3))]
          exact q
        refine iteF ?_
        rw [tNext_eq]
        dsimp only
        refine retE ?_
        refine andV (c1 := true) (c2 := true) (fun Q q => ⟨_, rfl, _, _, _, _, b4, rfl, .ty _, tx1, kit_ty k4, _, rfl, _, _, _, _, b4, rfl, .ty _, tx1, kit_ty k4, rfl, ?_⟩) (fun _ Q q => andV (c1 := true) (c2 := true) (fun Q q => ⟨_, rfl, rfl, _, rfl, rfl, rfl, ?_⟩) (fun _ Q q => ⟨_, rfl, _, rfl, k5, ?_⟩) q) (k H (Same.refl H))
        · rw [decide_eq_true (Eq.refl (V.bl b4))]
          exact q
        · rw [decide_eq_true (Eq.refl (V.bl (decide (v = V.non))))]
          exact q
        · rw [decide_eq_true (Eq.refl v)]
          exact q
      · refine ⟨_, rfl, _, _, _, _, true, rfl, .ty _, tt hb, kit_ty kt, _, rfl, iteT ?_⟩
        refine seqIf ?_
        refine tOr_of (c1 := false) (c2 := false) (fun Q q => ⟨_, rfl, _, _, _, _, true, rfl, .ty _, tt ha, kit_ty kt, _, rfl, q⟩) (fun _ Q q => ⟨_, rfl, a, xs, rfl, .inr (SqT.of ha), _, rfl, b, ys, rfl, .inr (SqT.of hb), rfl, _, rfl, ?_⟩) ?_
        · rw [le, decide_eq_true (Eq.refl (V.int (ys.length : Int)))]
          exact q
        refine iteF ?_
        rw [tNext_eq]
        dsimp only
        refine retE ?_
        refine ⟨_, rfl, b, ys, rfl, .inr (SqT.of hb), _, rfl, by omega, by omega, fun D hD => ?_⟩
        refine lc_range (n := ys.length) (fun i H2 => ∃ acc, H2 D = some (.lst acc) ∧ acc.length = i ∧ Same H H2) ⟨[], upd_same, rfl, fun c o e => by rw [upd_ne (ne_of_none e hD)]; exact e⟩ ?_ ?_
        · rintro i H2 hi ⟨acc, hD2, la, S2⟩
          obtain ⟨x, y, e1, e2, sp1⟩ := hp i hi
          have ei : (0 + (i : Int)) = (i : Int) := by omega
          refine ⟨rfl, _, rfl, _, rfl, a, _, _, x, rfl, rfl, SqT.of (S2 _ _ ha), by rw [ei]; exact atI_nat e1, _, rfl, _, rfl, b, _, _, y, rfl, rfl, SqT.of (S2 _ _ hb), by rw [ei]; exact atI_nat e2, ?_⟩
          refine sp1 H2 _ _ S2 fun H3 S3 => ⟨_, rfl, iteT ⟨_, rfl, acc, S3 _ _ hD2, by rw [sizeLine_eq]; omega, acc ++ [_], upd_same, by simp [la], fun c o e => ?_⟩⟩
          rw [upd_ne (ne_of_none e hD)]
          exact S3 _ _ (S2 _ _ e)
        · rintro H2 ⟨acc, hD2, la, S2⟩
          refine ⟨D, acc, rfl, .inl (SqL.of hD2), _, rfl, b, ys, rfl, .inr (SqT.of (S2 _ _ hb)), rfl, ?_⟩
          rw [la, decide_eq_true (Eq.refl (V.int (ys.length : Int)))]
          exact k H2 S2
end
end K29
end

section
set_option Elab.async false
set_option linter.all false
set_option maxRecDepth 100000
set_option maxHeartbeats 4000000
/-! The right lines are read. -/
namespace K29
open PySem PySem.Spec PyProof.Rows L2 XT
theorem cut_vals (x : CRow) : cutV (stV (toks x)) (some 4) (some (-3)) = stV (valToks x.vals) := by
  unfold cutV
  have hl : (stV (toks x)).length = (valToks x.vals).length + 7 := by rw [stV_len, toks_eq]; simp
  have e1 : HT.sIx (stV (toks x)).length 0 (some 4) = 4 := by
    rw [show (4 : Int) = ((4 : Nat) : Int) from rfl, HT.sIx_nat]
    omega
  have e2 : HT.sIx (stV (toks x)).length (stV (toks x)).length (some (-3)) = (valToks x.vals).length + 4 := by
    show (if (-3 : Int) < 0 then ((-3 : Int) + ((stV (toks x)).length : Int)).toNat else min (-3 : Int).toNat (stV (toks x)).length) = _
    rw [if_pos (by decide)]
    omega
  rw [e1, e2, Nat.add_sub_cancel, toks_eq]
  show ((stV (valToks x.vals ++ [[41], [45, 62], ansTok x.ans])).take _) = _
  rw [← stV_app, List.take_left' (by rw [stV_len])]
theorem filt_vals : ∀ (vs : List (List Nat)), (∀ v ∈ vs, v ≠ [44]) → (valToks vs).filter (fun t => decide (t ≠ [44])) = vs
  | [], _ => rfl
  | v :: vs, h => by
    rw [valToks_eq]
    have h1 : v ≠ [44] := h v (by simp)
    rw [List.filter_cons_of_pos (by simpa using h1)]
    congr 1
    have h2 : ∀ u ∈ vs, u ≠ [44] := fun u hu => h u (List.mem_cons_of_mem _ hu)
    clear h h1
    induction vs with
    | nil => rfl
    | cons u r ih =>
      rw [List.flatMap_cons, List.filter_append, ih fun z hz => h2 z (List.mem_cons_of_mem _ hz)]
      have := h2 u (by simp)
      simp [List.filter_cons, this]
/-- a row of tokens in the heap -/
def TokV (H : Hp) (v : V) (x : CRow) : Prop := ∃ t : Addr, v = .ref t ∧ H t = some (.lst (stV (toks x)))
def spLawRead (K : PySem.W.Frag) : Sp := fun vs H Q _ => ∃ (l : List Nat) (R : Addr) (ps : List V) (xs : List CRow), vs = [.str (tx l), .ref R] ∧ l.length ≤ 1000000 ∧ Tb K H ∧ H R = some (.lst ps) ∧ Paired (TokV H) ps xs ∧ (∀ x ∈ xs, ROk x) ∧ xs.length ≤ 1000 ∧
  (∃ ys, toldL 1 (linesL l) = .ok ys ∧ ys.map (·.2) = xs) ∧ ∀ H', Same H H' → Q (.bl true) H'
theorem like_vals {H : Hp} {n : Nat} : ∀ (ws : List (List Nat)), Paired (LikeV H n) (ws.map fun w => V.str (tx w)) (ws.map fun w => V.str (tx w))
  | [] => .nil
  | w :: ws => .cons (by cases n with
    | zero => exact ⟨rfl, .inr ⟨_, rfl⟩⟩
    | succ n => exact .inl ⟨rfl, .inr ⟨_, rfl⟩⟩) (like_vals ws)
theorem like_call {H : Hp} {u v : V} {x : CRow} (hx : x.vals.length ≤ 3) (a : CallV H u x) (b : CallV H v x) : LikeV H 2 u v := by
  obtain ⟨c, t, rfl, h1, h2⟩ := a
  obtain ⟨d, s, rfl, h3, h4⟩ := b
  have f : ∀ z : Str, LikeV H 1 (.str z) (.str z) := fun z => .inl ⟨rfl, .inr ⟨_, rfl⟩⟩
  have g : ∀ z : Int, LikeV H 1 (.int z) (.int z) := fun z => .inl ⟨rfl, .inl ⟨_, rfl⟩⟩
  exact .inr ⟨_, _, _, _, rfl, rfl, h1, h3, .cons (f _) (.cons (g _) (.cons (f _) (.cons (.inr ⟨_, _, _, _, rfl, rfl, h2, h4, like_vals _, by rw [List.length_map]; omega⟩) .nil))), by simp⟩
theorem like_calls {H : Hp} : ∀ {us vs : List V} {xs : List CRow}, (∀ x ∈ xs, x.vals.length ≤ 3) → Paired (CallV H) us xs → Paired (CallV H) vs xs → Paired (LikeV H 2) us vs
  | _, _, _, _, .nil, .nil => .nil
  | _, _, _, h, .cons a as, .cons b bs => .cons (like_call (h _ (by simp)) a b) (like_calls (fun x hx => h x (List.mem_cons_of_mem _ hx)) as bs)
theorem like_ans {H : Hp} : ∀ (xs : List CRow), Paired (LikeV H 2) (xs.map fun x => ansV x.ans) (xs.map fun x => ansV x.ans)
  | [] => .nil
  | x :: xs => by
    refine .cons ?_ (like_ans xs)
    show LikeV H 2 (ansV x.ans) (ansV x.ans)
    cases x.ans with
    | inl n => exact .inl ⟨rfl, .inl ⟨_, rfl⟩⟩
    | inr w => exact .inl ⟨rfl, .inr ⟨_, rfl⟩⟩
theorem pairLen {α β : Type} {F : α → β → Prop} : ∀ {l₁ : List α} {l₂ : List β}, Paired F l₁ l₂ → l₁.length = l₂.length
  | _, _, .nil => rfl
  | _, _, .cons _ t => by simp [pairLen t]
section
variable {w : World} {K : PySem.W.Frag} {mg : Str → Option Value} {base : Heap}
theorem likeT (T : Txt K mg) : FnOk Pg w K mg base CX0 5 (aLawLike K) (fdLawLike K) PLawLike (spLike 5) := ok_like T 5
theorem ok_lawRead (T : Txt K mg) : FnOk Pg w K mg base (L2N.CX Pg w) 9 (aLawRead K) (fdLawRead K) PLawRead (spLawRead K) := by
  refine (fLawRead T).okX scLawRead (fun vs H Q E h => ?_) (fun cdv A outer s H vs Q E hr h => ?_)
  · obtain ⟨l, R, ps, xs, rfl, _⟩ := h
    rfl
  · obtain ⟨l, R, ps, xs, rfl, hl, tb, hR, hp, hok, hxl, ⟨ys, hy, hyx⟩, k⟩ := h
    have hr5 : Room 5 _ := hr.mono (by decide)
    refine ⟨_, (pss_cons (ps_set (i := 2) scLawRead.nd rfl (Or.inl rfl) (pe_lst pa_nil))
(pss_cons (ps_set (i := 3) scLawRead.nd rfl (Or.inl rfl) (pe_lst pa_nil))
(pss_cons (ps_for (passes_of rfl) rfl (pi_list (pv 1)) (pg_name (i := 4) scLawRead.nd rfl (Or.inl rfl))
(pss_cons (ps_setLc (i := 5) (te := (tVar 6)) (tt := _) (own := [("token", 6)]) (g := gName 6) (by rfl) scLawRead.nd rfl rfl (by rfl) (pi_list (pe_slice sl_list (pv 4) (po_some pe_int) (po_some (pe_un un_neg pe_int)))) (blkOk_by (N := NLawRead) (sc := defScope sLawRead) (by decide +kernel)) (fun _ _ _ _ _ => (pg_name (i := 6) scLawRead.nd rfl (Or.inl rfl))) (fun _ _ _ _ _ => (pts_one (pt_cmpR op_ne (pv 6) pe_str (by rfl)))) (fun _ _ _ _ _ => (pv 6)))
(pss_cons (ps_expr (pe_bm PySem.F.plainAttrs_list PySem.F.slot_list_append PySem.F.type_list_append mt_append (pv 2) (pa_cons (pe_tup (pa_cons (pe_ix ix_list (pv 4) pe_int (fun _ _ => rfl)) (pa_cons (pe_callTy call_int_str (by rfl) (nInt T) (by decide +kernel) (pa_cons (pe_ix ix_list (pv 4) pe_int (fun _ _ => rfl)) pa_nil)) (pa_cons (pe_ix ix_list (pv 4) pe_int (fun _ _ => rfl)) (pa_cons (pe_callTy call_tuple_of (by rfl) (nTuple T) (by decide +kernel) (pa_cons (pv 5) pa_nil)) pa_nil))))) pa_nil)))
(pss_one (ps_if (pt_cmpR op_eq (pe_ix ix_list (pv 4) pe_int (fun _ _ => rfl)) pe_str (by rfl))
(pss_one (ps_expr (pe_bm PySem.F.plainAttrs_list PySem.F.slot_list_append PySem.F.type_list_append mt_append (pv 3) (pa_cons (pe_callTy call_int_str (by rfl) (nInt T) (by decide +kernel) (pa_cons (pe_ix ix_list (pv 4) (pe_un un_neg pe_int) (fun _ _ => rfl)) pa_nil)) pa_nil))))
(pss_one (ps_expr (pe_bm PySem.F.plainAttrs_list PySem.F.slot_list_append PySem.F.type_list_append mt_append (pv 3) (pa_cons (pe_ix ix_list (pv 4) (pe_un un_neg pe_int) (fun _ _ => rfl)) pa_nil)))))))))
(pss_one (ps_ret (pe_call (likeT T) hr5 rfl (gLawLike T) (fLawLike T).kp (bLawLike T) .nil pass0 (pa_cons (pe_call (ok_trans T) hr rfl (gReadTranscript T) (fReadTranscript T).kp (bReadTranscript T) .nil passX (pa_cons (pv 0) pa_nil)) (pa_cons (pe_tup (pa_cons (pe_callTy call_tuple_of (by rfl) (nTuple T) (by decide +kernel) (pa_cons (pv 2) pa_nil)) (pa_cons (pe_callTy call_tuple_of (by rfl) (nTuple T) (by decide +kernel) (pa_cons (pv 3) pa_nil)) pa_nil))) pa_nil)))))))), ?_⟩
    refine ⟨szL (n := 0) rfl (by decide), fun c hc => ⟨szL (n := 0) rfl (by decide), fun an han => ?_⟩⟩
    have S0 : Same H (L2.upd (L2.upd H c (.lst [])) an (.lst [])) := fun b o e => by
      have e1 : (L2.upd H c (.lst [])) b = some o := by rw [upd_ne (ne_of_none e hc)]; exact e
      rw [upd_ne (ne_of_none e1 han)]; exact e1
    have hca : c ≠ an := ne_of_none upd_same han
    have han0 : H an = none := by rw [upd_ne (Ne.symm hca)] at han; exact han
    have C0 : (L2.upd (L2.upd H c (.lst [])) an (.lst [])) c = some (.lst []) := by rw [upd_ne hca, upd_same]
    have A0 : (L2.upd (L2.upd H c (.lst [])) an (.lst [])) an = some (.lst []) := upd_same
    generalize (L2.upd (L2.upd H c (.lst [])) an (.lst [])) = H0 at *
    have lp := pairLen hp
    refine ⟨_, rfl, R, rfl, ⟨_, SqL.of (S0 _ _ hR)⟩, for_list (K := K) (a := R) (xs := ps) (fun i σ H1 => ∃ (cs : List V) (v4 v5 v6 : Option V), σ = [some (.str (tx l)), some (.ref R), some (.ref c), some (.ref an), v4, v5, v6] ∧ Same H H1 ∧
      H1 c = some (.lst cs) ∧ H1 an = some (.lst ((xs.take i).map fun x => ansV x.ans)) ∧ Paired (CallV H1) cs (xs.take i))
      ⟨[], none, none, none, rfl, S0, C0, A0, .nil⟩ (fun i σ H1 _ ⟨_, _, _, _, _, S1, _⟩ => SqL.of (S1 _ _ hR)) ?_ ?_⟩
    · rintro i v σ H1 hi ⟨cs, v4, v5, v6, rfl, S1, C1, A1, P1⟩
      obtain ⟨x, hx, t, rfl, ht⟩ := Paired.pick hp hi
      have rx := hok x (List.mem_of_getElem? hx)
      have il := (List.getElem?_eq_some_iff.mp hx).1
      have T1 := S1 _ _ ht
      have tk0 : (toks x)[0]? = some (partL x.isMk) := by rw [toks_eq]; rfl
      have tk1 : (toks x)[1]? = some (TL.numL x.frame) := by rw [toks_eq]; rfl
      have tk2 : (toks x)[2]? = some x.name := by rw [toks_eq]; rfl
      -- the values
      refine ⟨_, rfl, _, rfl, _, rfl, _, rfl, t, _, rfl, SqL.of T1, fun sl hsl => ?_⟩
      have SL : (L2.upd H1 sl (.lst (cutV (stV (toks x)) (some 4) (some (-3))))) sl = some (.lst (stV (valToks x.vals))) := by rw [upd_same, cut_vals]
      have S2 : Same H1 (L2.upd H1 sl (.lst (cutV (stV (toks x)) (some 4) (some (-3))))) := fun b o e => by rw [upd_ne (ne_of_none e hsl)]; exact e
      show ∃ a, _
      generalize (L2.upd H1 sl (.lst (cutV (stV (toks x)) (some 4) (some (-3))))) = H2 at *
      refine ⟨sl, rfl, ⟨_, SqL.of SL⟩, fun D hD => ?_⟩
      refine lc_list (K := K) (a := sl) (xs := stV (valToks x.vals)) (fun j H3 => H3 D = some (.lst (stV (((valToks x.vals).take j).filter fun t => decide (t ≠ [44])))) ∧ Same H2 H3)
        ⟨upd_same, fun b o e => by rw [upd_ne (ne_of_none e hD)]; exact e⟩ (fun j H3 _ ⟨_, S3⟩ => SqL.of (S3 _ _ SL)) ?_ ?_
      · rintro j v H3 hj ⟨D3, S3⟩
        obtain ⟨u, hu, rfl⟩ : ∃ u, (valToks x.vals)[j]? = some u ∧ v = .str (tx u) := by
          rw [stV, List.getElem?_map] at hj
          cases e : (valToks x.vals)[j]? with
          | none => rw [e] at hj; cases hj
          | some u => rw [e] at hj; exact ⟨u, rfl, (Option.some.inj hj).symm⟩
        refine ⟨rfl, _, rfl, rfl, _, rfl, ?_⟩
        rw [z_co, dec_tx, take_snoc hu, List.filter_append]
        by_cases h : u = [44]
        · rw [decide_eq_true h]
          refine iteF ⟨?_, S3⟩
          rw [List.filter_cons_of_neg (by simp [h]), List.filter_nil, List.append_nil]
          exact D3
        · rw [decide_eq_false h]
          refine iteT ⟨_, rfl, _, D3, ?_, ?_, fun b o e => ?_⟩
          · rw [stV_len, sizeLine_eq]
            have h1 := List.length_filter_le (fun t => decide (t ≠ [44])) ((valToks x.vals).take j)
            have h2 := valToks_len x.vals
            have h3 := rx.many
            rw [List.length_take] at h1
            omega
          · rw [upd_same, List.filter_cons_of_pos (by simp [h]), List.filter_nil]
            simp [stV]
          · rw [upd_ne (ne_of_none e hD)]
            exact S3 _ _ e
      rintro H3 ⟨D3, S3⟩
      rw [stV_len, List.take_length, filt_vals x.vals (fun v hv => name_not (rx.vals v hv) rfl)] at D3
      have S13 : Same H1 H3 := Same.trans' S2 S3
      have T3 := S13 _ _ T1
      have C3 := S13 _ _ C1
      have A3 := S13 _ _ A1
      have lt30 : (TL.numL x.frame).length ≤ 20 := num20 rx.frame
      have int1 : intText? (tx (TL.numL x.frame)) = some (x.frame : Int) := by rw [← num_tx]; exact TL.int_num (by omega)
      refine ⟨_, rfl, .inl ⟨rfl, _, SqL.of C3⟩, _, rfl, t, _, 0, _, rfl, rfl, SqL.of T3, at_stV tk0, _, rfl, t, _, 1, _, rfl, rfl, SqL.of T3, at_stV (k := 1) tk1, _, _, rfl, int1, by rw [tx_len]; omega, _, rfl, t, _, 2, _, rfl, rfl, SqL.of T3, at_stV (k := 2) tk2, ?_⟩
      refine ⟨_, rfl, D, _, rfl, .inl ⟨SqL.of D3, fun vt hvt => ?_⟩⟩
      refine ⟨szL (n := 4) rfl (by decide), fun ct hct => ?_⟩
      have S4 : Same H3 (L2.upd (L2.upd H3 vt (.tup (stV x.vals))) ct (.tup [.str (tx (partL x.isMk)), .int (x.frame : Int), .str (tx x.name), .ref vt])) := fun b o e => by
        have e1 : (L2.upd H3 vt (.tup (stV x.vals))) b = some o := by rw [upd_ne (ne_of_none e hvt)]; exact e
        rw [upd_ne (ne_of_none e1 hct)]; exact e1
      have CV : CallV (L2.upd (L2.upd H3 vt (.tup (stV x.vals))) ct (.tup [.str (tx (partL x.isMk)), .int (x.frame : Int), .str (tx x.name), .ref vt])) (.ref ct) x :=
        ⟨ct, vt, rfl, upd_same, by rw [upd_ne (ne_of_none upd_same hct)]; exact upd_same⟩
      generalize (L2.upd (L2.upd H3 vt (.tup (stV x.vals))) ct (.tup [.str (tx (partL x.isMk)), .int (x.frame : Int), .str (tx x.name), .ref vt])) = H4 at *
      have C4 := S4 _ _ C3
      have A4 := S4 _ _ A3
      have T4 := S4 _ _ T3
      have S14 : Same H1 H4 := Same.trans' S13 S4
      have lcs : cs.length ≤ 1000 := by
        have h1 := pairLen P1
        rw [List.length_take] at h1
        omega
      refine ⟨c, _, _, rfl, rfl, C4, by rw [sizeLine_eq]; omega, ?_⟩
      have tc : t ≠ c := ne_of_none ht hc
      have T5 : (L2.upd H4 c (.lst (cs ++ [.ref ct]))) t = some (.lst (stV (toks x))) := by rw [upd_ne tc]; exact T4
      have A5 : (L2.upd H4 c (.lst (cs ++ [.ref ct]))) an = some (.lst ((xs.take i).map fun x => ansV x.ans)) := by rw [upd_ne (Ne.symm hca)]; exact A4
      have TP : Tups H1 (L2.upd H4 c (.lst (cs ++ [.ref ct]))) := fun u us e => by
        rw [upd_ne (ne_of (S14 _ _ e) C4 (by intro z; cases z))]
        exact S14 _ _ e
      have TP4 : Tups H4 (L2.upd H4 c (.lst (cs ++ [.ref ct]))) := fun u us e => by
        rw [upd_ne (ne_of e C4 (by intro z; cases z))]
        exact e
      have P5 : Paired (CallV (L2.upd H4 c (.lst (cs ++ [.ref ct])))) (cs ++ [.ref ct]) (xs.take (i + 1)) := by
        rw [take_snoc hx]
        exact Paired.snoc (P1.mono fun v y r => r.mono TP) (CV.mono TP4)
      have S5 : Same H (L2.upd H4 c (.lst (cs ++ [.ref ct]))) := fun b o e => by
        rw [upd_ne (ne_of_none e hc)]
        exact S14 _ _ (S1 _ _ e)
      have C5 : (L2.upd H4 c (.lst (cs ++ [.ref ct]))) c = some (.lst (cs ++ [.ref ct])) := upd_same
      generalize (L2.upd H4 c (.lst (cs ++ [.ref ct]))) = H5 at *
      have fin : ∀ y, y = ansV x.ans → (∃ (cs : List V) (w4 w5 w6 : Option V), [some (.str (tx l)), some (.ref R), some (.ref c), some (.ref an), some (.ref t), some (.ref D), v6] = [some (.str (tx l)), some (.ref R), some (.ref c), some (.ref an), w4, w5, w6] ∧ Same H (L2.upd H5 an (.lst ((xs.take i).map (fun x => ansV x.ans) ++ [y]))) ∧
          (L2.upd H5 an (.lst ((xs.take i).map (fun x => ansV x.ans) ++ [y]))) c = some (.lst cs) ∧ (L2.upd H5 an (.lst ((xs.take i).map (fun x => ansV x.ans) ++ [y]))) an = some (.lst ((xs.take (i + 1)).map fun x => ansV x.ans)) ∧ Paired (CallV (L2.upd H5 an (.lst ((xs.take i).map (fun x => ansV x.ans) ++ [y])))) cs (xs.take (i + 1))) := fun y hy => by
        refine ⟨cs ++ [.ref ct], _, _, _, rfl, fun b o e => ?_, ?_, ?_, P5.mono fun v y r => r.mono fun u us e => ?_⟩
        · rw [upd_ne (ne_of_none e han0)]
          exact S5 _ _ e
        · rw [upd_ne hca]
          exact C5
        · rw [upd_same, take_snoc hx, List.map_append, hy]
          rfl
        · rw [upd_ne (ne_of e A5 (by intro z; cases z))]
          exact e
      have lxs : ((xs.take i).map fun x => ansV x.ans).length < sizeLine := by
        rw [List.length_map, List.length_take, sizeLine_eq]
        omega
      have at_l : atI (stV (toks x)) (-1) = some (.str (tx (ansTok x.ans))) := by
        have e : stV (toks x) = stV ([partL x.isMk, TL.numL x.frame, x.name, [40]] ++ valToks x.vals ++ [[41], [45, 62]]) ++ [.str (tx (ansTok x.ans))] := by simp [toks, stV]
        rw [e]
        exact atI_last _ _
      have ha := rx.ans
      refine ⟨_, rfl, t, _, 0, _, rfl, rfl, SqL.of T5, at_stV tk0, rfl, _, rfl, ?_⟩
      rw [z_make, z_part]
      cases hm : x.isMk with
      | true =>
        obtain ⟨n, hn⟩ : ∃ n, x.ans = .inl n := by
          cases e : x.ans with
          | inl n => exact ⟨n, rfl⟩
          | inr w => rw [e] at ha; rw [ha.1] at hm; cases hm
        rw [hn] at ha
        have n20 : n < 10 ^ 20 := by
          have : (10 : Nat) ^ 6 < 10 ^ 20 := by decide
          have := ha.2
          omega
        have l20 := num20 n20
        have int2 : intText? (tx (ansTok x.ans)) = some (n : Int) := by
          rw [hn]
          show intText? (tx (TL.numL n)) = _
          rw [← num_tx]; exact TL.int_num (by omega)
        refine iteT ⟨_, rfl, .inl ⟨rfl, _, SqL.of A5⟩, _, rfl, _, rfl, t, _, _, _, rfl, rfl, SqL.of T5, at_l, _, _, rfl, int2, by rw [tx_len, hn]; show (TL.numL n).length ≤ 640; omega, an, _, _, rfl, rfl, A5, lxs, ?_⟩
        obtain ⟨cs', a1, a2, a3, hh⟩ := fin (.int (n : Int)) (by rw [hn]; rfl)
        exact ⟨cs', a1, a2, a3, hh⟩
      | false =>
        obtain ⟨u, hu⟩ : ∃ u, x.ans = .inr u := by
          cases e : x.ans with
          | inl n => rw [e] at ha; rw [ha.1] at hm; cases hm
          | inr w => exact ⟨w, rfl⟩
        refine iteF ⟨_, rfl, .inl ⟨rfl, _, SqL.of A5⟩, _, rfl, _, rfl, t, _, _, _, rfl, rfl, SqL.of T5, at_l, an, _, _, rfl, rfl, A5, lxs, ?_⟩
        obtain ⟨cs', a1, a2, a3, hh⟩ := fin (.str (tx (ansTok x.ans))) (by rw [hu]; rfl)
        exact ⟨cs', a1, a2, a3, hh⟩
    rintro σ H1 ⟨cs, v4, v5, v6, rfl, S1, C1, A1, P1⟩
    rw [lp, List.take_length] at A1 P1
    refine ⟨_, rfl, l, rfl, hl, tb.same S1, fun zs ez v H2 S2 TV => ?_, fun n x e he => ?_⟩
    · have ezs : zs.map (·.2) = xs := by
        rw [hy] at ez
        cases ez
        exact hyx
      rw [ezs] at TV
      have C2 := S2 _ _ C1
      refine ⟨_, rfl, c, _, rfl, .inl ⟨SqL.of C2, fun tc htc => ?_⟩⟩
      have S3 : Same H2 (L2.upd H2 tc (.tup cs)) := fun b o e => by rw [upd_ne (ne_of_none e htc)]; exact e
      have TC : (L2.upd H2 tc (.tup cs)) tc = some (.tup cs) := upd_same
      generalize (L2.upd H2 tc (.tup cs)) = H3 at *
      have A3 := S3 _ _ (S2 _ _ A1)
      refine ⟨_, rfl, an, _, rfl, .inl ⟨SqL.of A3, fun ta hta => ?_⟩⟩
      have S4 : Same H3 (L2.upd H3 ta (.tup (xs.map fun x => ansV x.ans))) := fun b o e => by rw [upd_ne (ne_of_none e hta)]; exact e
      have TA : (L2.upd H3 ta (.tup (xs.map fun x => ansV x.ans))) ta = some (.tup (xs.map fun x => ansV x.ans)) := upd_same
      generalize (L2.upd H3 ta (.tup (xs.map fun x => ansV x.ans))) = H4 at *
      refine ⟨szL (n := 2) rfl (by decide), fun tt htt => ?_⟩
      have S5 : Same H4 (L2.upd H4 tt (.tup [.ref tc, .ref ta])) := fun b o e => by rw [upd_ne (ne_of_none e htt)]; exact e
      have TT : (L2.upd H4 tt (.tup [.ref tc, .ref ta])) tt = some (.tup [.ref tc, .ref ta]) := upd_same
      generalize (L2.upd H4 tt (.tup [.ref tc, .ref ta])) = H5 at *
      obtain ⟨vt, va, vb, ds, rfl, h1, h2, h3, h4⟩ := TV
      have S25 : Same H2 H5 := Same.trans' S3 (Same.trans' S4 S5)
      have many : ∀ x ∈ xs, x.vals.length ≤ 3 := fun x hx => (hok x hx).many
      have P5 : Paired (CallV H5) cs xs := P1.mono fun v y r => r.mono fun u us e => S25 _ _ (S2 _ _ e)
      have D5 : Paired (CallV H5) ds xs := h4.mono fun v y r => r.mono fun u us e => S25 _ _ e
      refine ⟨_, _, rfl, .inr ⟨_, _, _, _, rfl, rfl, S25 _ _ h1, TT, .cons (.inr ⟨_, _, _, _, rfl, rfl, S25 _ _ h2, S5 _ _ (S4 _ _ TC), like_calls many D5 P5, ?_⟩) (.cons (.inr ⟨_, _, _, _, rfl, rfl, S25 _ _ h3, S5 _ _ TA, like_ans xs, ?_⟩) .nil), by simp⟩, fun H6 S6 => k H6 ?_⟩
      · have := pairLen D5
        omega
      · rw [List.length_map]
        omega
      · exact fun b o e => S6 _ _ (S25 _ _ (S2 _ _ (S1 _ _ e)))
    · rw [hy] at he
      cases he
end
end K29
end

section
set_option Elab.async false
set_option linter.all false
set_option maxRecDepth 100000
set_option maxHeartbeats 4000000
/-! The refusals. -/
namespace K29
open PySem PySem.Spec PyProof.Rows L2 XT
theorem z_line : (("line" : Str) == "column") = false := by decide +kernel
theorem xf_line (v u : V) : List.lookup ("line" : Str) (xFs v u) = some v := by simp [List.lookup, z_line]
theorem xf_col (v u : V) : List.lookup ("column" : Str) (xFs v u) = some u := by simp [List.lookup]
/-- the program of no parts -/
def ProgV (H : Hp) (v : V) : Prop := ∃ p a b c : Addr, v = .ref p ∧ H p = some (.tup [.str "program", .ref a, .ref b, .ref c]) ∧ H a = some (.tup []) ∧ H b = some (.tup []) ∧ H c = some (.tup [])
def spChecked (K : PySem.W.Frag) : Sp := fun vs H _ E => ∃ (v : V) (l : List Nat) (n : Nat) (x e : List Nat), vs = [v, .str (tx l)] ∧ ProgV H v ∧ Tb K H ∧ l.length ≤ 1000000 ∧ toldL 1 (linesL l) = .error (n, x, e) ∧ Bad K x (n : Int) E e
def spRefused (K : PySem.W.Frag) : Sp := fun vs H Q _ => ∃ (v : V) (l : List Nat) (n : Nat) (x e : List Nat), vs = [v, .str (tx l), .int (n : Int), .int (colAt x e)] ∧ (v = .non ∨ (v ≠ .non ∧ ProgV H v)) ∧ Tb K H ∧ l.length ≤ 1000000 ∧ toldL 1 (linesL l) = .error (n, x, e) ∧ ∀ H', Tb K H' → Q (.bl true) H'
theorem takesN0 {X : Cx} : L2N.Takes X (fun _ _ _ _ => False) := fun _ _ x => by
  obtain ⟨_, _, _, _, _, _, _, _, _, _, _, _, _, _, _, _, z⟩ := x
  exact z.elim
def tsR (K : PySem.W.Frag) (a : Addr) (cls : Value) (d : Option Addr) : TS :=
  tRet (tCallS (spLike 5) (fun _ => E0) (tCons (tTup (tCons (tXf a cls d (He.ga K "BadText") "line" (tVar 4)) (tCons (tXf a cls d (He.ga K "BadText") "column" (tVar 4)) tNil))) (tCons (tTup (tCons (tVar 2) (tCons (tVar 3) tNil))) tNil)))
section
variable {w : World} {K : PySem.W.Frag} {mg : Str → Option Value} {base : Heap}
theorem ok_refused (T : Txt K mg) (C : FnOk Pg w K mg base (L2N.CX Pg w) 15 (aChecked K) (fdChecked K) PChecked (spChecked K)) : FnOk Pg w K mg base CX0 16 (aLawRefused K) (fdLawRefused K) PLawRefused (spRefused K) := by
  refine (fLawRefused T).ok scLawRefused (fun vs H Q E h => ?_) (fun cdv A outer s H vs Q E hr h => ?_)
  · obtain ⟨v, l, n, x, e, rfl, _⟩ := h
    rfl
  · obtain ⟨v, l, n, x, e, rfl, hv, tb, hl, ht, k⟩ := h
    have hr8 : Room 8 _ := hr.mono (by decide)
    have hr5 : Room 5 _ := hr.mono (by decide)
    refine ⟨_, pss_cons (L2N.ps_try_as (i := 4) (tb := fun W => tIfS (tTest (tOp (fun x y H Q => y = .non ∧ Q (.bl (decide (x = .non))) H) (tVar 0) (tC .non))) (tDrop (tCallS (spTrans K) (WE W) (tCons (tVar 1) tNil))) (tDrop (tCallS (spChecked K) (WE W) (tCons (tVar 0) (tCons (tVar 1) tNil)))))
        (ts := tsR K) (Wout := fun _ _ _ _ => False) rfl rfl scLawRefused.nd rfl rfl ⟨rfl, by decide, Or.inl T.bad.gC⟩ takesN0
        (fun W pn xe tk _ => pss_one (ps_if (pt_cmpR op_isN (pv 0) pe_non (by rfl))
          (pss_one (ps_expr (by exact (pe_callS (ok_trans T) hr8 rfl (gReadTranscript T) (fReadTranscript T).kp (bReadTranscript T) (fun σ => L2N.passAt tk σ) (by exact (pa_cons (pv 1) pa_nil))))))
          (pss_one (ps_expr (by exact (pe_callS C hr rfl (gChecked T) (fChecked T).kp (bChecked T) (fun σ => L2N.passAt tk σ) (by exact (pa_cons (pv 0) (pa_cons (pv 1) pa_nil)))))))))
        (fun a oe cls d pn hz hf => pss_one (ps_ret (L2H.pe_callH (ok_likeH T 5) ⟨hr5.dp, hr5.un⟩ (let ⟨vs, hd⟩ := hf; ⟨(a, oe), ⟨rfl, vs, hd, hz.2.2 vs hd⟩, List.mem_cons_self⟩) rfl (gLawLike T) (fLawLike T).kp (bLawLike T) (fun _ => passH0) (pa_cons (pe_tup (pa_cons (pe_xf (xfC_of T.bad) T.bad.noA hz.zc hf (pv 4)) (pa_cons (pe_xf (xfC_of T.bad) T.bad.noB hz.zc hf (pv 4)) pa_nil))) (pa_cons (pe_tup (pa_cons (pv 2) (pa_cons (pv 3) pa_nil))) pa_nil))))))
      (pss_one (ps_ret pe_bl)), ?_⟩
    have bad : ∀ (d : Addr) (H' : Hp), Tb K H' → H' d = some (.xd (xFs (.int (n : Int)) (.int (colAt x e)))) → ∀ D : Ends, D.rt = Q → wAs K (.ref (He.ga K "BadText")) 4 (tsR K) (fun _ _ _ _ => False) D (.ref (He.ga K "BadText")) (some d) (L2.start NLawRefused [v, .str (tx l), .int (n : Int), .int (colAt x e)]) H' := fun d H' tb' hd D hD => by
      refine ⟨true, T.bad.te, fun _ a ha => ?_, fun z => Bool.noConfusion z⟩
      refine ⟨_, rfl, rfl, rfl, d, _, _, rfl, hd, xf_line _ _, _, rfl, rfl, rfl, d, _, _, rfl, hd, xf_col _ _, szL (n := 2) rfl (by decide), fun t1 ht1 => ?_⟩
      refine ⟨_, rfl, _, rfl, szL (n := 2) rfl (by decide), fun t2 ht2 => ?_⟩
      have f : ∀ (H : Hp) (z : Int), LikeV H 3 (.int z) (.int z) := fun _ z => .inl ⟨rfl, .inl ⟨_, rfl⟩⟩
      refine ⟨_, _, rfl, .inr ⟨t1, t2, _, _, rfl, rfl, by rw [upd_ne (ne_of_none upd_same ht2)]; exact upd_same, upd_same, .cons (f _ _) (.cons (f _ _) .nil), by simp⟩, fun H6 S6 => ?_⟩
      show D.rt (.bl true) H6
      rw [hD]
      refine k H6 (tb'.same fun b o q => S6 _ _ ?_)
      have q1 : (L2.upd H' t1 (.tup [.int (n : Int), .int (colAt x e)])) b = some o := by rw [upd_ne (ne_of_none q ht1)]; exact q
      rw [upd_ne (ne_of_none q1 ht2)]
      exact q1
    rcases hv with rfl | ⟨hv, PV⟩
    · refine ⟨_, rfl, rfl, _, rfl, iteT ⟨_, rfl, l, rfl, hl, tb, fun ys ey => ?_, fun n' x' e' he => ?_⟩⟩
      · rw [ht] at ey
        cases ey
      · rw [ht] at he
        cases he
        exact fun d H' tb' hd => bad d H' tb' hd _ rfl
    · refine ⟨_, rfl, rfl, _, rfl, ?_⟩
      rw [decide_eq_false hv]
      refine iteF ⟨_, rfl, _, rfl, v, l, n, x, e, rfl, PV, tb, hl, ht, fun d H' tb' hd => bad d H' tb' hd _ rfl⟩
end
end K29
end

section
set_option Elab.async false
set_option linter.all false
set_option maxRecDepth 100000
set_option maxHeartbeats 4000000
/-! The lines, right and wrong. -/
namespace K29
open PySem PySem.Spec PyProof.Rows L2 XT
/-- lines that are read as xs -/
def RdL (L : List (List Nat)) (xs : List CRow) : Prop := ∀ n, ∃ ys, toldL n L = .ok ys ∧ ys.map (·.2) = xs
theorem RdL.nil : RdL [] [] := fun n => ⟨[], rfl, rfl⟩
theorem told_app : ∀ (L : List (List Nat)) (M : List (List Nat)) (n : Nat) (ys : List (Nat × CRow)), toldL n L = .ok ys → toldL n (L ++ M) = (match toldL (n + L.length) M with | .ok zs => .ok (ys ++ zs) | .error e => .error e)
  | [], M, n, ys, h => by
    cases h
    show toldL n M = (match toldL n M with | .ok zs => .ok ([] ++ zs) | .error e => .error e)
    cases toldL n M <;> rfl
  | x :: L, M, n, ys, h => by
    have hn : n + (x :: L).length = n + 1 + L.length := by simp; omega
    rw [hn]
    rw [toldL] at h
    rw [List.cons_append, toldL]
    cases hx : pLine x with
    | error e => rw [hx] at h; cases h
    | ok o =>
      rw [hx] at h
      cases o with
      | none =>
        have h' : toldL (n + 1) L = .ok ys := h
        show toldL (n + 1) (L ++ M) = _
        exact told_app L M (n + 1) ys h'
      | some y =>
        have h' : (match toldL (n + 1) L with | .error e => Except.error e | .ok ys => .ok ((n, y) :: ys)) = .ok ys := h
        cases hl : toldL (n + 1) L with
        | error e => rw [hl] at h'; cases h'
        | ok zs =>
          rw [hl] at h'
          cases h'
          have ih := told_app L M (n + 1) zs hl
          show (match toldL (n + 1) (L ++ M) with | .error e => Except.error e | .ok ys => .ok ((n, y) :: ys)) = _
          rw [ih]
          cases toldL (n + 1 + L.length) M <;> rfl
theorem pLine_blank (g : Nat) : pLine (List.replicate g 32) = .ok none := by
  unfold pLine
  have : pB (List.replicate g 32) = [] := by
    have := pB_run g (f := []) (hd_nil _)
    rwa [List.append_nil] at this
  rw [this]
theorem RdL.blank {L : List (List Nat)} {xs : List CRow} (h : RdL L xs) (g : Nat) : RdL (L ++ [List.replicate g 32]) xs := fun n => by
  obtain ⟨ys, h1, h2⟩ := h n
  refine ⟨ys, ?_, h2⟩
  rw [told_app L _ n ys h1]
  show (match toldL (n + L.length) [List.replicate g 32] with | .ok zs => Except.ok (ys ++ zs) | .error e => .error e) = _
  rw [toldL, pLine_blank]
  show (match toldL (n + L.length + 1) [] with | .ok zs => Except.ok (ys ++ zs) | .error e => .error e) = _
  rw [toldL]
  simp
theorem RdL.row {L : List (List Nat)} {xs : List CRow} (h : RdL L xs) {t : List Nat} {x : CRow} (ht : pLine t = .ok (some x)) : RdL (L ++ [t]) (xs ++ [x]) := fun n => by
  obtain ⟨ys, h1, h2⟩ := h n
  refine ⟨ys ++ [(n + L.length, x)], ?_, by rw [List.map_append, h2]; rfl⟩
  rw [told_app L _ n ys h1, toldL, ht]
  show (match (match toldL (n + L.length + 1) [] with | .error e => Except.error e | .ok ys => .ok ((n + L.length, x) :: ys)) with | .ok zs => Except.ok (ys ++ zs) | .error e => .error e) = _
  rw [toldL]
/-- the lines' state behind i rows: m the number of the bent one -/
structure LInv (m i : Nat) (xs : List CRow) (R W : List (List Nat)) (line col : Int) : Prop where
  rd : RdL R (xs.take i)
  cl : ∀ l ∈ R, (∀ c ∈ l, c ≠ 10) ∧ l.length ≤ 5000
  cw : ∀ l ∈ W, (∀ c ∈ l, c ≠ 10) ∧ l.length ≤ 5000
  same : i ≤ m → W = R
  bad : m < i → ∃ A B C e, W = A ++ B :: C ∧ (∃ zs, RdL A zs) ∧ pLine B = .error e ∧ col = colAt B e ∧ line = (A.length : Int) + 1
  len : W.length = R.length
theorem LInv.start (m : Nat) (xs : List CRow) (line col : Int) : LInv m 0 xs [] [] line col := ⟨RdL.nil, by simp, by simp, fun _ => rfl, fun h => absurd h (Nat.not_lt_zero _), rfl⟩
theorem LInv.free {m i : Nat} {xs : List CRow} {R W : List (List Nat)} {line col : Int} (h : LInv m i xs R W line col) (hi : i ≤ m) (line' col' : Int) : LInv m i xs R W line' col' := ⟨h.rd, h.cl, h.cw, h.same, fun z => by omega, h.len⟩
theorem mem_one {P : List Nat → Prop} {L : List (List Nat)} {l : List Nat} (h : ∀ x ∈ L, P x) (h1 : P l) : ∀ x ∈ L ++ [l], P x := fun x hx => by
  rcases List.mem_append.mp hx with hx | hx
  · exact h x hx
  · rw [List.mem_singleton.mp hx]; exact h1
theorem LInv.blank {m i : Nat} {xs : List CRow} {R W : List (List Nat)} {line col : Int} (h : LInv m i xs R W line col) {g : Nat} (hg : g ≤ 3) : LInv m i xs (R ++ [List.replicate g 32]) (W ++ [List.replicate g 32]) line col := by
  have c0 : (∀ c ∈ List.replicate g 32, c ≠ 10) ∧ (List.replicate g 32).length ≤ 5000 := ⟨fun c hc => by rw [(List.mem_replicate.mp hc).2]; decide, by rw [List.length_replicate]; omega⟩
  refine ⟨h.rd.blank g, mem_one h.cl c0, mem_one h.cw c0, fun hi => by rw [h.same hi], fun hi => ?_, by simp [h.len]⟩
  obtain ⟨A, B, C, e, e1, r⟩ := h.bad hi
  exact ⟨A, B, C ++ [List.replicate g 32], e, by rw [e1]; simp, r⟩
theorem LInv.row {m i : Nat} {xs : List CRow} {R W : List (List Nat)} {line col line' col' : Int} (h : LInv m i xs R W line col) {x : CRow} (hx : xs[i]? = some x) {t b : List Nat} (ht : pLine t = .ok (some x)) (ct : (∀ c ∈ t, c ≠ 10) ∧ t.length ≤ 5000) (cb : (∀ c ∈ b, c ≠ 10) ∧ b.length ≤ 5000)
    (h1 : i < m → b = t) (h2 : i = m → BadL b col' ∧ line' = (R.length : Int) + 1) (h3 : m < i → line' = line ∧ col' = col) : LInv m (i + 1) xs (R ++ [t]) (W ++ [b]) line' col' := by
  refine ⟨by rw [take_snoc hx]; exact h.rd.row ht, mem_one h.cl ct, mem_one h.cw cb, fun hi => by rw [h.same (by omega), h1 (by omega)], fun hi => ?_, by simp [h.len]⟩
  rcases Nat.lt_or_ge m i with hm | hm
  · obtain ⟨A, B, C, e, e1, e2, e3, e4, e5⟩ := h.bad hm
    obtain ⟨rfl, rfl⟩ := h3 hm
    exact ⟨A, B, C ++ [b], e, by rw [e1]; simp, e2, e3, e4, e5⟩
  · have hm2 : i = m := by omega
    obtain ⟨bb, hl⟩ := h2 hm2
    obtain ⟨e, e1, e2⟩ := bb.ex
    have hW := h.same (by omega)
    exact ⟨W, b, [], e, rfl, ⟨_, by rw [hW]; exact h.rd⟩, e1, e2, by rw [hW]; exact hl⟩
/-! ### the texts -/
theorem joinL_end : ∀ (L : List (List Nat)), L ≠ [] → joinL L ++ [10] = joinL (L ++ [[]])
  | [], h => absurd rfl h
  | [x], _ => rfl
  | x :: y :: r, _ => by
    have ih := joinL_end (y :: r) (by simp)
    show (x ++ (10 :: joinL (y :: r))) ++ [10] = x ++ (10 :: joinL (y :: r ++ [[]]))
    rw [← ih]
    simp
def endL (e : Nat) (L : List (List Nat)) : List (List Nat) := if e = 0 then L else L ++ [[]]
theorem lines_end {L : List (List Nat)} (h : L ≠ []) (hc : ∀ l ∈ L, ∀ c ∈ l, c ≠ 10) {e : Nat} (he : e ≤ 1) : linesL (joinL L ++ List.replicate e 10) = endL e L := by
  have f : ∀ l : List Nat, (∀ c ∈ l, c ≠ 10) → 10 ∉ l := fun l hl h => hl 10 h rfl
  rcases (show e = 0 ∨ e = 1 by omega) with rfl | rfl
  · rw [List.replicate_zero, List.append_nil]
    exact linesL_join L h fun l hl => f l (hc l hl)
  · show linesL (joinL L ++ [10]) = L ++ [[]]
    rw [joinL_end L h]
    refine linesL_join _ (by simp) fun l hl => ?_
    rcases List.mem_append.mp hl with hl | hl
    · exact f l (hc l hl)
    · rw [List.mem_singleton.mp hl]; simp
theorem joinL_len : ∀ (L : List (List Nat)) (N : Nat), (∀ l ∈ L, l.length ≤ N) → (joinL L).length ≤ (N + 1) * L.length
  | [], _, _ => Nat.zero_le _
  | [x], N, h => by have := h x (by simp); simp [joinL]; omega
  | x :: y :: r, N, h => by
    have ih := joinL_len (y :: r) N fun l hl => h l (List.mem_cons_of_mem _ hl)
    have := h x (by simp)
    show (x ++ (10 :: joinL (y :: r))).length ≤ _
    rw [List.length_append, List.length_cons]
    have e : (N + 1) * (x :: y :: r).length = (N + 1) + (N + 1) * (y :: r).length := by
      rw [List.length_cons (a := x), Nat.mul_add, Nat.mul_one, Nat.add_comm]
    rw [e]
    omega
theorem LInv.right {m i : Nat} {xs : List CRow} {R W : List (List Nat)} {line col : Int} (h : LInv m i xs R W line col) (hi : i = xs.length) (h0 : R ≠ []) {e : Nat} (he : e ≤ 1) : ∃ ys, toldL 1 (linesL (joinL R ++ List.replicate e 10)) = .ok ys ∧ ys.map (·.2) = xs := by
  rw [lines_end h0 (fun l hl => (h.cl l hl).1) he]
  have h1 : RdL (endL e R) xs := by
    have hr := h.rd
    rw [hi, List.take_length] at hr
    unfold endL
    split
    · exact hr
    · exact hr.blank 0
  exact h1 1
theorem LInv.wrong {m i : Nat} {xs : List CRow} {R W : List (List Nat)} {line col : Int} (h : LInv m i xs R W line col) (hi : m < i) {e : Nat} (he : e ≤ 1) : ∃ (n : Nat) (x r : List Nat), toldL 1 (linesL (joinL W ++ List.replicate e 10)) = .error (n, x, r) ∧ line = (n : Int) ∧ col = colAt x r := by
  obtain ⟨A, B, C, r, e1, ⟨zs, e2⟩, e3, e4, e5⟩ := h.bad hi
  have h0 : W ≠ [] := by rw [e1]; simp
  rw [lines_end h0 (fun l hl => (h.cw l hl).1) he]
  refine ⟨1 + A.length, B, r, ?_, by rw [e5]; omega, e4⟩
  obtain ⟨ys, h1, _⟩ := e2 1
  have key : ∀ C', toldL 1 (A ++ B :: C') = .error (1 + A.length, B, r) := fun C' => by
    rw [told_app A _ 1 ys h1, toldL, e3]
  unfold endL
  split
  · rw [e1]; exact key C
  · rw [e1, List.append_assoc]
    exact key (C ++ [[]])
end K29
end

section
set_option Elab.async false
set_option linter.all false
set_option maxRecDepth 100000
set_option maxHeartbeats 4000000
/-! The law. -/
namespace K29
open PySem PySem.Spec PyProof.Rows L2 XT
/-- no times, once -/
def rRepS : R2 := fun x y H Q => ∃ (z : List Nat) (n : Nat), x = .str (tx z) ∧ y = .int (n : Int) ∧ n ≤ 1 ∧ Q (.str (tx (if n = 0 then [] else z))) H
theorem op_repS {X : Cx} : OpR X (binaryOp .Mult) rRepS := by
  intro pins s σ H x y v u Q I rx ry h
  obtain ⟨z, n, rfl, rfl, hn, q⟩ := h
  obtain ⟨t, rfl⟩ := rx
  obtain ⟨t', rfl⟩ := ry
  rcases (show n = 0 ∨ n = 1 by omega) with rfl | rfl
  · exact PySem.P.mul_str_none (by decide) (by decide) ⟨.str (tx []), H, I.tok _, ⟨_, rfl⟩, q⟩
  · refine PySem.P.mul_str (by decide) (fun _ h => absurd h (by simp)) (fun _ h => absurd h (by simp)) ?_
    rw [if_neg (by decide), if_pos (by simp)]
    exact ⟨.str (tx z), H, I, ⟨_, rfl⟩, q⟩
theorem sql_same {K : PySem.W.Frag} {H H' : Hp} {a : Addr} {xs : List V} (h : SqL K H a xs) (k : Same H H') : SqL K H' a xs := by
  rcases h with (h | ⟨o, h⟩) | h
  · exact .inl (.inl (k _ _ h))
  · exact .inl (.inr ⟨o, k _ _ h⟩)
  · exact .inr h
def spLaw (K : PySem.W.Frag) : Sp := fun vs H Q _ => ∃ (a : Addr) (ns : List Int), vs = [.ref a] ∧ SqL K H a (ns.map V.int) ∧ ns.length ≤ 1000000 ∧ Tb K H ∧ ∀ H', Q (.bl true) H'
section
variable {w : World} {K : PySem.W.Frag} {mg : Str → Option Value} {base : Heap}
theorem ok_law (T : Txt K mg) (C : FnOk Pg w K mg base (L2N.CX Pg w) 15 (aChecked K) (fdChecked K) PChecked (spChecked K)) : FnOk Pg w K mg base (L2N.CX Pg w) 17 (aLaw K) (fdLaw K) PLaw (spLaw K) := by
  have okRead : Txt K mg → FnOk Pg w K mg base (L2N.CX Pg w) 9 (aLawRead K) (fdLawRead K) PLawRead (spLawRead K) := fun T => ok_lawRead T
  have okRef : Txt K mg → FnOk Pg w K mg base CX0 16 (aLawRefused K) (fdLawRefused K) PLawRefused (spRefused K) := fun T => ok_refused T C
  refine (fLaw T).okX scLaw (fun vs H Q E h => ?_) (fun cdv A outer s H vs Q E hr h => ?_)
  · obtain ⟨a, ns, rfl, _⟩ := h
    rfl
  · obtain ⟨a, ns, rfl, ha, hl, tb, k⟩ := h
    have hr1 : Room 1 _ := hr.mono (by decide)
    have hr2 : Room 2 _ := hr.mono (by decide)
    have hr3 : Room 3 _ := hr.mono (by decide)
    have hr9 : Room 9 _ := hr.mono (by decide)
    refine ⟨_, (pss_cons (ps_set (i := 1) scLaw.nd rfl (Or.inr rfl) (pe_lst (pa_cons (pe_lc (te := _) (own := [("x", 12)]) (g := gName 12) (by rfl) scLaw.nd (pi_list (pv 0)) (blkOk_by (N := NLaw) (sc := defScope sLaw) (by decide +kernel)) (fun _ _ _ _ _ => (pg_name (i := 12) scLaw.nd rfl (Or.inl rfl))) (fun _ _ _ _ _ => pts_nil) (fun _ _ _ _ _ => (pe_callTy call_int1 (by rfl) (nInt T) (by decide +kernel) (pa_cons (pv 12) pa_nil)))) (pa_cons pe_int (pa_cons pe_int (pa_cons pe_int pa_nil))))))
(pss_cons (ps_setLc (i := 2) (te := (tCall (spWild K) [] E0 (tCons (tVar 1) tNil))) (own := [("k", 6)]) (g := gName 6) (by rfl) scLaw.nd rfl rfl (by rfl) (pi_range1 (by rfl) (nRange T) (pa_cons (pe_op op_add pe_int (pe_call (ok_draw T) hr1 rfl (gLawDraw T) (fLawDraw T).kp (bLawDraw T) .nil pass0 (pa_cons (pv 1) (pa_cons pe_int pa_nil)))) pa_nil)) (blkOk_by (N := NLaw) (sc := defScope sLaw) (by decide +kernel)) (fun _ _ _ _ _ => (pg_name (i := 6) scLaw.nd rfl (Or.inl rfl))) (fun _ _ _ _ _ => pts_nil) (fun _ _ _ _ _ => (pe_call (ok_wild T) hr3 rfl (gLawWild T) (fLawWild T).kp (bLawWild T) .nil pass0 (pa_cons (pv 1) pa_nil))))
(pss_cons (ps_set (i := 3) scLaw.nd rfl (Or.inl rfl) (pe_call (ok_draw T) hr1 rfl (gLawDraw T) (fLawDraw T).kp (bLawDraw T) .nil pass0 (pa_cons (pv 1) (pa_cons (pe_callB call_len_seq (by rfl) (nLen T) PySem.boot_len (pa_cons (pv 2) pa_nil)) pa_nil))))
(pss_cons (ps_set (i := 4) scLaw.nd rfl (Or.inl rfl) (pe_lst pa_nil))
(pss_cons (ps_set (i := 5) scLaw.nd rfl (Or.inl rfl) (pe_lst pa_nil))
(pss_cons (ps_for (passes_of rfl) rfl (pi_range1 (by rfl) (nRange T) (pa_cons (pe_callB call_len_seq (by rfl) (nLen T) PySem.boot_len (pa_cons (pv 2) pa_nil)) pa_nil)) (pg_name (i := 6) scLaw.nd rfl (Or.inl rfl))
(pss_cons (ps_for (passes_of rfl) rfl (pi_range1 (by rfl) (nRange T) (pa_cons (pe_op op_mul (pe_callTy call_int1 (by rfl) (nInt T) (by decide +kernel) (pa_cons (pe_cmpR op_eq (pe_call (ok_draw T) hr1 rfl (gLawDraw T) (fLawDraw T).kp (bLawDraw T) .nil pass0 (pa_cons (pv 1) (pa_cons pe_int pa_nil))) pe_int (by rfl)) pa_nil)) (pe_call (ok_draw T) hr1 rfl (gLawDraw T) (fLawDraw T).kp (bLawDraw T) .nil pass0 (pa_cons (pv 1) (pa_cons pe_int pa_nil)))) pa_nil)) (pg_name (i := 9) scLaw.nd rfl (Or.inl rfl))
(pss_cons (ps_expr (pe_bm PySem.F.plainAttrs_list PySem.F.slot_list_append PySem.F.type_list_append mt_append (pv 4) (pa_cons (pe_call (ok_lblanks T) hr2 rfl (gLawBlanks T) (fLawBlanks T).kp (bLawBlanks T) .nil pass0 (pa_cons (pv 1) (pa_cons pe_int pa_nil))) pa_nil)))
(pss_one (ps_expr (pe_bm PySem.F.plainAttrs_list PySem.F.slot_list_append PySem.F.type_list_append mt_append (pv 5) (pa_cons (pe_ix ix_list (pv 4) (pe_un un_neg pe_int) (fun _ _ => rfl)) pa_nil))))))
(pss_cons (ps_asg (pe_call (ok_spelled T) hr3 rfl (gLawSpelled T) (fLawSpelled T).kp (bLawSpelled T) .nil pass0 (pa_cons (pv 1) (pa_cons (pe_ix ix_list (pv 2) (pv 6) (fun _ _ => rfl)) pa_nil))) (pg_tup rfl (pgs_cons (pg_name (i := 8) scLaw.nd rfl (Or.inl rfl)) (pgs_cons (pg_name (i := 10) scLaw.nd rfl (Or.inl rfl)) pgs_nil))))
(pss_cons (ps_expr (pe_bm PySem.F.plainAttrs_list PySem.F.slot_list_append PySem.F.type_list_append mt_append (pv 4) (pa_cons (pv 8) pa_nil)))
(pss_cons (ps_if (pt_cmpR op_eq (pv 6) (pv 3) (by rfl))
(pss_cons (ps_asg (pe_call (ok_bent T) hr3 rfl (gLawBent T) (fLawBent T).kp (bLawBent T) .nil pass0 (pa_cons (pv 1) (pa_cons (pe_ix ix_list (pv 2) (pv 6) (fun _ _ => rfl)) (pa_cons (pv 8) (pa_cons (pv 10) pa_nil))))) (pg_tup rfl (pgs_cons (pg_name (i := 8) scLaw.nd rfl (Or.inl rfl)) (pgs_cons (pg_name (i := 13) scLaw.nd rfl (Or.inl rfl)) pgs_nil))))
(pss_one (ps_set (i := 11) scLaw.nd rfl (Or.inl rfl) (pe_callB call_len_seq (by rfl) (nLen T) PySem.boot_len (pa_cons (pv 4) pa_nil)))))
pss_nil)
(pss_cons (ps_if (PW.pt (pw_and (pt_cmpR op_gt (pv 6) (pv 3) (by rfl)) (pw_and1 (pt_cmpR op_eq (pe_call (ok_draw T) hr1 rfl (gLawDraw T) (fLawDraw T).kp (bLawDraw T) .nil pass0 (pa_cons (pv 1) (pa_cons pe_int pa_nil))) pe_int (by rfl)))))
(pss_one (ps_set (i := 8) scLaw.nd rfl (Or.inl rfl) (pe_ix ix_tup (pe_call (ok_bent T) hr3 rfl (gLawBent T) (fLawBent T).kp (bLawBent T) .nil pass0 (pa_cons (pv 1) (pa_cons (pe_ix ix_list (pv 2) (pv 6) (fun _ _ => rfl)) (pa_cons (pv 8) (pa_cons (pv 10) pa_nil))))) pe_int (fun _ _ => rfl))))
pss_nil)
(pss_one (ps_expr (pe_bm PySem.F.plainAttrs_list PySem.F.slot_list_append PySem.F.type_list_append mt_append (pv 5) (pa_cons (pv 8) pa_nil))))))))))
(pss_cons (ps_set (i := 7) scLaw.nd rfl (Or.inl rfl) (pe_op op_repS pe_str (pe_call (ok_draw T) hr1 rfl (gLawDraw T) (fLawDraw T).kp (bLawDraw T) .nil pass0 (pa_cons (pv 1) (pa_cons pe_int pa_nil)))))
(pss_cons (ps_if (pt_not (pt_val (pe_call (okRead T) hr9 rfl (gLawRead T) (fLawRead T).kp (bLawRead T) .nil passX (pa_cons (pe_op op_add_str (pe_join pe_str (pv 4)) (pv 7)) (pa_cons (pv 2) pa_nil)))))
(pss_one (ps_ret pe_bl))
pss_nil)
(pss_cons (ps_set (i := 8) scLaw.nd rfl (Or.inl rfl) (pe_op op_add_str (pe_join pe_str (pv 5)) (pv 7)))
(pss_cons (ps_if (pt_not (pt_val (pe_call (okRef T) hr rfl (gLawRefused T) (fLawRefused T).kp (bLawRefused T) .nil pass0 (pa_cons pe_non (pa_cons (pv 8) (pa_cons (pv 11) (pa_cons (pv 13) pa_nil)))))))
(pss_one (ps_ret pe_bl))
pss_nil)
(pss_one (ps_ret (pe_or (pe_cmpR op_gt (pv 3) pe_int (by rfl)) (pe_one (pe_call (okRef T) hr rfl (gLawRefused T) (fLawRefused T).kp (bLawRefused T) .nil pass0 (pa_cons (pe_tup (pa_cons pe_str (pa_cons (pe_tup pa_nil) (pa_cons (pe_tup pa_nil) (pa_cons (pe_tup pa_nil) pa_nil))))) (pa_cons (pv 8) (pa_cons (pv 11) (pa_cons (pv 13) pa_nil))))))))))))))))))), ?_⟩
    -- the source
    refine ⟨_, rfl, a, rfl, ⟨_, ha⟩, fun D hD => ?_⟩
    refine lc_list (K := K) (a := a) (xs := ns.map V.int) (fun i H2 => H2 D = some (.lst ((ns.take i).map V.int)) ∧ Same H H2) ⟨upd_same, fun b o e => by rw [upd_ne (ne_of_none e hD)]; exact e⟩ (fun i H2 _ ⟨_, S2⟩ => sql_same ha S2) ?_ ?_
    · rintro i v H2 hi ⟨D2, S2⟩
      obtain ⟨z, hz, rfl⟩ : ∃ z, ns[i]? = some z ∧ v = .int z := by
        rw [List.getElem?_map] at hi
        cases e : ns[i]? with
        | none => rw [e] at hi; cases hi
        | some z => rw [e] at hi; exact ⟨z, rfl, (Option.some.inj hi).symm⟩
      refine ⟨rfl, yes_t ⟨_, rfl, .inl ⟨_, rfl, _, D2, ?_, ?_, fun b o e => ?_⟩⟩⟩
      · rw [List.length_map, List.length_take, sizeLine_eq]; omega
      · rw [upd_same, take_snoc hz, List.map_append]; rfl
      · rw [upd_ne (ne_of_none e hD)]; exact S2 _ _ e
    rintro H1 ⟨D1, S1⟩
    rw [List.length_map, List.take_length] at D1
    refine ⟨szL (n := 4) rfl (by decide), fun src hsrc => ?_⟩
    have hDs : D ≠ src := ne_of_none D1 hsrc
    have R2 : SrcAt (L2.upd H1 src (.lst [.ref D, .int 0, .int 0, .int 7])) src D := ⟨ns, 0, 0, 7, upd_same, by rw [upd_ne hDs]; exact D1, hDs, by decide, by decide⟩
    have S2 : Same H (L2.upd H1 src (.lst [.ref D, .int 0, .int 0, .int 7])) := fun b o e => by rw [upd_ne (ne_of_none (S1 _ _ e) hsrc)]; exact S1 _ _ e
    have tb2 := tb.same S2
    generalize (L2.upd H1 src (.lst [.ref D, .int 0, .int 0, .int 7])) = H2 at *
    have tbB : ∀ {H H' : Hp}, Tb K H → SrcAt H src D → But src H H' → Tb K H' := fun t R B => by
      obtain ⟨_, _, _, _, h1, _⟩ := R.at_
      exact t.keep B h1 fun _ z => by cases z
    -- the rows
    refine ⟨_, rfl, src, D, 6, rfl, R2, by decide, by decide, fun d H3 d0 d1 R3 B3 => ?_⟩
    have tb3 := tbB tb2 R2 B3
    refine ⟨_, _, rfl, rfl, _, rfl, by omega, by omega, fun L hL => ?_⟩
    have tk_ne : ∀ {H : Hp} {t : Addr} {x : CRow}, SrcAt H src D → H t = some (.lst (stV (toks x))) → t ≠ src := fun R ht => R.ne ht fun _ _ _ _ z => by
      rw [toks_eq] at z
      injection z with z
      injection z with z1
      cases z1
    refine lc_range (n := (1 + d).toNat) (fun i H4 => ∃ (ps : List V) (xs : List CRow), H4 L = some (.lst ps) ∧ Paired (TokV H4) ps xs ∧ ps.length = i ∧ (∀ x ∈ xs, ROk x) ∧ SrcAt H4 src D ∧ Tb K H4 ∧ (∀ v ∈ ps, v ≠ .ref L) ∧ L ≠ src ∧ L ≠ D)
      ⟨[], [], upd_same, .nil, rfl, by simp, R3.new hL, tb3.same (fun b o e => by rw [upd_ne (ne_of_none e hL)]; exact e), by simp, (R3.ap hL).1, (R3.ap hL).2⟩ ?_ ?_
    · rintro i H4 hi ⟨ps, xs, L4, P4, l4, o4, R4, tb4, n4, La, Lb⟩
      refine ⟨rfl, yes_t ⟨_, rfl, src, D, rfl, R4, fun x t H5 rx tn tH R5 B5 => ?_⟩⟩
      have L5 := B5 _ _ L4 La
      have tL : L ≠ t := ne_of_none L4 tn
      refine ⟨ps, L5, by rw [sizeLine_eq]; omega, ps ++ [.ref t], xs ++ [x], upd_same, ?_, by simp [l4], ?_, R5.putL La Lb, (tbB tb4 R4 B5).keep (But.upd _ _ _) L5 (fun _ z => by cases z), ?_, La, Lb⟩
      · have lift : ∀ {v y}, TokV H4 v y → v ≠ .ref L → TokV (L2.upd H5 L (.lst (ps ++ [.ref t]))) v y := fun {v y} ⟨u, e1, e2⟩ hne => by
          subst e1
          have uL : u ≠ L := fun z => hne (by rw [z])
          exact ⟨u, rfl, by rw [upd_ne uL]; exact B5 _ _ e2 (tk_ne R4 e2)⟩
        have go : ∀ {qs : List V} {ys : List CRow}, Paired (TokV H4) qs ys → (∀ v ∈ qs, v ≠ .ref L) → Paired (TokV (L2.upd H5 L (.lst (ps ++ [.ref t])))) qs ys := fun {qs ys} P => by
          induction P with
          | nil => intro _; exact .nil
          | cons r p ih => intro hn; exact .cons (lift r (hn _ (by simp))) (ih fun v hv => hn v (List.mem_cons_of_mem _ hv))
        exact Paired.snoc (go P4 n4) ⟨t, rfl, by rw [upd_ne (Ne.symm tL)]; exact tH⟩
      · intro y hy
        rcases List.mem_append.mp hy with hy | hy
        · exact o4 y hy
        · rw [List.mem_singleton.mp hy]; exact rx
      · intro v hv
        rcases List.mem_append.mp hv with hv | hv
        · exact n4 v hv
        · rw [List.mem_singleton.mp hv]
          intro z
          exact tL (V.ref.inj z).symm
    rintro H4 ⟨ps, xs, L4, P4, l4, o4, R4, tb4, n4, La, Lb⟩
    have lp : ps.length = xs.length := pairLen P4
    have h1x : 1 ≤ xs.length ∧ xs.length ≤ 6 := by omega
    refine ⟨_, rfl, _, rfl, L, ps, rfl, .inl (SqL.of L4), src, D, _, rfl, R4, by omega, lt100 (by omega), fun mi H5 m0 m1 R5 B5 => ?_⟩
    obtain ⟨m, rfl⟩ := Int.eq_ofNat_of_zero_le m0
    have hm : m < xs.length := by omega
    have L5 := B5 _ _ L4 La
    have tb5 := tbB tb4 R4 B5
    have P5 : Paired (TokV H5) ps xs := P4.mono fun v y ⟨u, e1, e2⟩ => ⟨u, e1, B5 _ _ e2 (tk_ne R4 e2)⟩
    clear B5 L4 P4 R4 tb4 n4
    refine ⟨szL (n := 0) rfl (by decide), fun r hr0 => ⟨szL (n := 0) rfl (by decide), fun q hq => ?_⟩⟩
    have hrq : r ≠ q := ne_of_none upd_same hq
    have hq0 : H5 q = none := by rw [upd_ne (Ne.symm hrq)] at hq; exact hq
    obtain ⟨ra, rb⟩ := R5.ap hr0
    obtain ⟨qa, qb⟩ := R5.ap hq0
    have R6 : SrcAt (L2.upd (L2.upd H5 r (.lst [])) q (.lst [])) src D := (R5.new hr0).new hq
    have B6 : But src H5 (L2.upd (L2.upd H5 r (.lst [])) q (.lst [])) := (But.new hr0).trans (But.new hq)
    have r6 : (L2.upd (L2.upd H5 r (.lst [])) q (.lst [])) r = some (.lst []) := by rw [upd_ne hrq, upd_same]
    have q6 : (L2.upd (L2.upd H5 r (.lst [])) q (.lst [])) q = some (.lst []) := upd_same
    generalize (L2.upd (L2.upd H5 r (.lst [])) q (.lst [])) = H6 at *
    have rL : r ≠ L := Ne.symm (ne_of_none L5 hr0)
    refine ⟨_, rfl, L, ps, rfl, .inl (SqL.of (B6 _ _ L5 La)), _, rfl, by omega, by omega, for_range (n := ((ps.length : Nat) : Int).toNat) (fun i σ H => ∃ (Rs Ws : List (List Nat)) (ln col : Int) (v6 v7 v8 v9 v10 v11 v12 v13 : Option V), σ = [some (.ref a), some (.ref src), some (.ref L), some (.int (m : Int)), some (.ref r), some (.ref q), v6, v7, v8, v9, v10, v11, v12, v13] ∧
      LInv m i xs Rs Ws ln col ∧ (m < i → v11 = some (.int ln) ∧ v13 = some (.int col)) ∧ H r = some (.lst (stV Rs)) ∧ H q = some (.lst (stV Ws)) ∧ Rs.length ≤ 3 * i ∧ (0 < i → Rs ≠ []) ∧ SrcAt H src D ∧ But src H5 H)
      ⟨[], [], 0, 0, _, _, _, _, _, _, _, _, rfl, LInv.start m xs 0 0, fun h => absurd h (Nat.not_lt_zero _), r6, q6, Nat.zero_le _, fun h => absurd h (Nat.lt_irrefl _), R6, B6⟩ ?_ ?_⟩
    · rintro i σ H7 hi ⟨Rs, Ws, ln, col, v6, v7, v8, v9, v10, v11, v12, v13, rfl, LI, hv, r7, q7, hlen, hne0, R7, B7⟩
      have hi2 : i < xs.length := by omega
      -- blank lines ahead
      refine ⟨_, rfl, src, D, 4, rfl, R7, by decide, by decide, fun d4 H8 _ _ R8 B8 => ?_⟩
      refine ⟨rfl, .inr ⟨_, rfl, _, rfl, src, D, 3, rfl, R8, by decide, by decide, fun d5 H9 f0 f1 R9 B9 => ?_⟩⟩
      obtain ⟨jj, hj, hj2⟩ : ∃ j : Nat, ((if (decide (V.int d4 = V.int 0)) = true then (1 : Int) else 0) * d5) = (j : Int) ∧ j ≤ 2 := by
        split
        · exact ⟨d5.toNat, by omega, by omega⟩
        · exact ⟨0, by omega, by omega⟩
      refine ⟨_, _, rfl, rfl, .inl (by split <;> exact ⟨by decide, by decide⟩), (jj : Int), congrArg (fun z => [V.int z]) hj, by omega, by omega, for_range (n := ((jj : Nat) : Int).toNat) (fun j σ H => ∃ (Rs Ws : List (List Nat)) (v9 : Option V), σ = [some (.ref a), some (.ref src), some (.ref L), some (.int (m : Int)), some (.ref r), some (.ref q), some (.int (0 + (i : Int))), v7, v8, v9, v10, v11, v12, v13] ∧
        LInv m i xs Rs Ws ln col ∧ H r = some (.lst (stV Rs)) ∧ H q = some (.lst (stV Ws)) ∧ Rs.length ≤ 3 * i + j ∧ SrcAt H src D ∧ But src H5 H)
        ⟨Rs, Ws, v9, rfl, LI, B9 _ _ (B8 _ _ r7 ra) ra, B9 _ _ (B8 _ _ q7 qa) qa, by omega, R9, (B7.trans B8).trans B9⟩ ?_ ?_⟩
      · rintro j σ HA hjl ⟨Rs, Ws, v9, rfl, LI, rA, qA, hlen, RA, BA⟩
        refine ⟨_, rfl, .inl ⟨rfl, _, SqL.of rA⟩, _, rfl, src, D, 0, rfl, RA, by decide, fun g HB g0 g1 RB BB => ?_⟩
        have rB := BB _ _ rA ra
        have qB := BB _ _ qA qa
        have hl30 : Rs.length ≤ 20 := by omega
        have hw30 : Ws.length ≤ 20 := by have := LI.len; omega
        refine ⟨r, _, _, rfl, rfl, rB, by rw [stV_len, sizeLine_eq]; omega, ?_⟩
        have qC : (L2.upd HB r (.lst (stV Rs ++ [.str (tx (List.replicate g 32))]))) q = some (.lst (stV Ws)) := by rw [upd_ne (Ne.symm hrq)]; exact qB
        have rC : (L2.upd HB r (.lst (stV Rs ++ [.str (tx (List.replicate g 32))]))) r = some (.lst (stV Rs ++ [.str (tx (List.replicate g 32))])) := upd_same
        refine ⟨_, rfl, .inl ⟨rfl, _, SqL.of qC⟩, _, rfl, _, rfl, r, _, _, _, rfl, rfl, SqL.of rC, atI_last _ _, q, _, _, rfl, rfl, qC, by rw [stV_len, sizeLine_eq]; omega, ?_⟩
        refine ⟨_, _, _, rfl, LI.blank g1, ?_, ?_, by simp; omega, (RB.putL ra rb).putL qa qb, ((BA.trans BB).put hr0).put hq0⟩
        · rw [upd_ne hrq, rC]
          simp [stV]
        · rw [upd_same]
          simp [stV]
      rintro σ HA ⟨Rs, Ws, v9, rfl, LI, rA, qA, hlen, RA, BA⟩
      -- the row
      have hps : i < ps.length := by omega
      obtain ⟨v, x, hvi, hxi, t, rfl, ht5⟩ := pairBoth P5 hi2
      have rok := o4 x (List.mem_of_getElem? hxi)
      have tsrc := tk_ne R5 ht5
      have tr : t ≠ r := ne_of_none ht5 hr0
      have tq : t ≠ q := ne_of_none ht5 hq0
      have tA := BA _ _ ht5 tsrc
      have LA := BA _ _ L5 La
      have at_i : atI ps (0 + (i : Int)) = some (.ref t) := by rw [Int.zero_add]; exact atI_nat hvi
      have hl20 : Rs.length ≤ 20 := by omega
      have hw20 : Ws.length ≤ 20 := by have := LI.len; omega
      refine ⟨_, rfl, _, rfl, _, rfl, L, _, _, _, rfl, rfl, SqL.of LA, at_i, src, D, t, toks x, rfl, RA, tA, tsrc, by have := toks_len x rok; omega, row_len x rok, fun P gl rr sl HB gp lP g3 hrr hsl sln RB BB => ?_⟩
      have S : RowS x P gl := ⟨rok, gp, lP, g3⟩
      have rB := BB _ _ rA ra
      have qB := BB _ _ qA qa
      have slr : sl ≠ r := Ne.symm (ne_of_none rA sln)
      have slq : sl ≠ q := Ne.symm (ne_of_none qA sln)
      have sls : sl ≠ src := (RA.ap sln).1
      have hrr2 : HB rr = some (.tup [.str (tx (txt P gl)), .ref sl]) := hrr
      clear hrr
      refine ⟨rr, _, rfl, SqT.of hrr2, rfl, _, _, rfl, _, _, rfl, rfl, ?_⟩
      refine ⟨_, rfl, .inl ⟨rfl, _, SqL.of rB⟩, _, rfl, r, _, _, rfl, rfl, rB, by rw [stV_len, sizeLine_eq]; omega, ?_⟩
      have rC : (L2.upd HB r (.lst (stV Rs ++ [.str (tx (txt P gl))]))) r = some (.lst (stV (Rs ++ [txt P gl]))) := by rw [upd_same]; simp [stV]
      have qC : (L2.upd HB r (.lst (stV Rs ++ [.str (tx (txt P gl))]))) q = some (.lst (stV Ws)) := by rw [upd_ne (Ne.symm hrq)]; exact qB
      have slC : (L2.upd HB r (.lst (stV Rs ++ [.str (tx (txt P gl))]))) sl = some (.lst ((stL 0 P).map fun n => .int (n : Nat))) := by rw [upd_ne slr]; exact hsl
      have RC : SrcAt (L2.upd HB r (.lst (stV Rs ++ [.str (tx (txt P gl))]))) src D := RB.putL ra rb
      have BC : But src H5 (L2.upd HB r (.lst (stV Rs ++ [.str (tx (txt P gl))]))) := (BA.trans BB).put hr0
      generalize (L2.upd HB r (.lst (stV Rs ++ [.str (tx (txt P gl))]))) = HC at *
      have tkC := BC _ _ ht5 tsrc
      have LC := BC _ _ L5 La
      have ct : (∀ c ∈ txt P gl, c ≠ 10) ∧ (txt P gl).length ≤ 5000 := ⟨S.clean, by have := S.len; omega⟩
      -- the end of a turn
      obtain ⟨Wz, eWz⟩ : ∃ Wz, Wz = Ws := ⟨_, rfl⟩
      have fin : ∀ {b : List Nat} {ln' col' : Int} {v8 v11 v13 : Option V} {H8 : Hp}, LInv m (i + 1) xs (Rs ++ [txt P gl]) (Ws ++ [b]) ln' col' → (m < i + 1 → v11 = some (.int ln') ∧ v13 = some (.int col')) → H8 r = some (.lst (stV (Rs ++ [txt P gl]))) → H8 q = some (.lst (stV Ws)) → SrcAt H8 src D → But src H5 H8 →
          ∃ (Rs Ws : List (List Nat)) (ln col : Int) (w6 w7 w8 w9 w10 w11 w12 w13 : Option V), [some (.ref a), some (.ref src), some (.ref L), some (.int (m : Int)), some (.ref r), some (.ref q), some (.int (0 + (i : Int))), v7, v8, v9, some (.ref sl), v11, v12, v13] = [some (.ref a), some (.ref src), some (.ref L), some (.int (m : Int)), some (.ref r), some (.ref q), w6, w7, w8, w9, w10, w11, w12, w13] ∧
          LInv m (i + 1) xs Rs Ws ln col ∧ (m < i + 1 → w11 = some (.int ln) ∧ w13 = some (.int col)) ∧ (L2.upd H8 q (.lst (stV Wz ++ [.str (tx b)]))) r = some (.lst (stV Rs)) ∧ (L2.upd H8 q (.lst (stV Wz ++ [.str (tx b)]))) q = some (.lst (stV Ws)) ∧ Rs.length ≤ 3 * (i + 1) ∧ (0 < i + 1 → Rs ≠ []) ∧ SrcAt (L2.upd H8 q (.lst (stV Wz ++ [.str (tx b)]))) src D ∧ But src H5 (L2.upd H8 q (.lst (stV Wz ++ [.str (tx b)]))) := fun {b ln' col' v8 v11 v13 H8} l8 hv8 r8 q8 R8' B8' =>
        ⟨_, _, ln', col', _, _, _, _, _, _, _, _, rfl, l8, hv8, by rw [upd_ne hrq]; exact r8, by rw [upd_same, eWz]; simp [stV], by simp; omega, fun _ => by simp, R8'.putL qa qb, B8'.put hq0⟩
      have dk : decide (V.int (0 + (i : Int)) = V.int (m : Int)) = decide (i = m) := by rw [dec_int]; exact decide_eq_decide.mpr (by omega)
      have dg : decide ((m : Int) < 0 + (i : Int)) = decide (m < i) := decide_eq_decide.mpr (by omega)
      refine ⟨_, rfl, _, rfl, rfl, _, rfl, ?_⟩
      rw [dk]
      by_cases him : i = m
      · rw [decide_eq_true him]
        refine iteT ?_
        refine ⟨_, rfl, _, rfl, _, rfl, L, _, _, _, rfl, rfl, SqL.of LC, at_i, _, rfl, _, rfl, src, D, t, sl, x, P, gl, rfl, RC, tkC, slC, S, tsrc, sls, fun r2 l2 c2 HD bd hr2' RD BD => ?_⟩
        refine ⟨r2, _, rfl, SqT.of hr2', rfl, _, _, rfl, _, _, rfl, rfl, ?_⟩
        have rD := BD _ _ rC ra
        have qD := BD _ _ qC qa
        refine ⟨_, rfl, r, _, rfl, .inl (SqL.of rD), ?_⟩
        dsimp only [gName]
        refine seqIf ?_
        refine ⟨_, rfl, _, rfl, _, _, rfl, rfl, _, rfl, ?_⟩
        rw [dg, decide_eq_false (by omega)]
        refine iteF (iteF ?_)
        refine ⟨_, rfl, .inl ⟨rfl, _, SqL.of qD⟩, _, rfl, q, _, _, rfl, rfl, qD, by rw [stV_len, sizeLine_eq]; omega, ?_⟩
        have row := LI.row (line' := ((stV (Rs ++ [txt P gl])).length : Int)) hxi S.right ct ⟨bd.clean, bd.len⟩ (fun h => by omega) (fun _ => ⟨bd, by rw [stV_len]; simp⟩) (fun h => by omega)
        obtain ⟨z1, z2, z3, z4, z5, z6, z7, z8, z9, z10, z11, z12, hh⟩ := fin (v8 := some (.str (tx l2))) (v11 := some (.int ((stV (Rs ++ [txt P gl])).length : Int))) (v13 := some (.int c2)) row (fun _ => ⟨rfl, rfl⟩) rD qD RD (BC.trans BD)
        rw [eWz] at hh
        exact ⟨z1, z2, z3, z4, z5, z6, z7, z8, z9, z10, z11, z12, hh⟩
      · rw [decide_eq_false him]
        refine iteF ?_
        rw [tNext_eq]
        dsimp only
        refine seqIf ?_
        refine ⟨_, rfl, _, rfl, _, _, rfl, rfl, _, rfl, ?_⟩
        rw [dg]
        by_cases hg : m < i
        · rw [decide_eq_true hg]
          refine iteT ?_
          have hv' := hv hg
          refine ⟨_, rfl, src, D, 3, rfl, RC, by decide, by decide, fun d9 HD _ _ RD BD => ⟨rfl, _, rfl, ?_⟩⟩
          have rD := BD _ _ rC ra
          have qD := BD _ _ qC qa
          have tkD := BD _ _ tkC tsrc
          have slD := BD _ _ slC sls
          have LD := BD _ _ LC La
          refine ite2 (fun _ => ?_) (fun _ => ?_)
          · refine ⟨_, rfl, _, rfl, _, rfl, L, _, _, _, rfl, rfl, SqL.of LD, at_i, _, rfl, _, rfl, src, D, t, sl, x, P, gl, rfl, RD, tkD, slD, S, tsrc, sls, fun r2 l2 c2 HE bd hr2' RE BE => ?_⟩
            refine ⟨r2, _, 0, _, rfl, rfl, SqT.of hr2', rfl, ?_⟩
            have rE := BE _ _ rD ra
            have qE := BE _ _ qD qa
            refine ⟨_, rfl, .inl ⟨rfl, _, SqL.of qE⟩, _, rfl, q, _, _, rfl, rfl, qE, by rw [stV_len, sizeLine_eq]; omega, ?_⟩
            have row := LI.row (line' := ln) (col' := col) hxi S.right ct ⟨bd.clean, bd.len⟩ (fun h => by omega) (fun h => absurd h him) (fun h => ⟨rfl, rfl⟩)
            obtain ⟨z1, z2, z3, z4, z5, z6, z7, z8, z9, z10, z11, z12, hh⟩ := fin (v8 := some (.str (tx l2))) (v11 := v11) (v13 := v13) row (fun _ => hv') rE qE RE ((BC.trans BD).trans BE)
            rw [eWz] at hh
            exact ⟨z1, z2, z3, z4, z5, z6, z7, z8, z9, z10, z11, z12, hh⟩
          · refine ⟨_, rfl, .inl ⟨rfl, _, SqL.of qD⟩, _, rfl, q, _, _, rfl, rfl, qD, by rw [stV_len, sizeLine_eq]; omega, ?_⟩
            have row := LI.row (line' := ln) (col' := col) hxi S.right ct ct (fun h => rfl) (fun h => absurd h him) (fun h => ⟨rfl, rfl⟩)
            obtain ⟨z1, z2, z3, z4, z5, z6, z7, z8, z9, z10, z11, z12, hh⟩ := fin (v8 := some (.str (tx (txt P gl)))) (v11 := v11) (v13 := v13) row (fun _ => hv') rD qD RD (BC.trans BD)
            rw [eWz] at hh
            exact ⟨z1, z2, z3, z4, z5, z6, z7, z8, z9, z10, z11, z12, hh⟩
        · rw [decide_eq_false hg]
          refine iteF (iteF ?_)
          refine ⟨_, rfl, .inl ⟨rfl, _, SqL.of qC⟩, _, rfl, q, _, _, rfl, rfl, qC, by rw [stV_len, sizeLine_eq]; omega, ?_⟩
          have row := LI.row (line' := ln) (col' := col) hxi S.right ct ct (fun h => rfl) (fun h => absurd h him) (fun h => ⟨rfl, rfl⟩)
          obtain ⟨z1, z2, z3, z4, z5, z6, z7, z8, z9, z10, z11, z12, hh⟩ := fin (v8 := some (.str (tx (txt P gl)))) (v11 := v11) (v13 := v13) row (fun h => by omega) rC qC RC BC
          rw [eWz] at hh
          exact ⟨z1, z2, z3, z4, z5, z6, z7, z8, z9, z10, z11, z12, hh⟩
    rintro σ H7 ⟨Rs, Ws, ln, col, v6, v7, v8, v9, v10, v11, v12, v13, rfl, LI, hv, r7, q7, hlen, hne0, R7, B7⟩
    have hn : ((ps.length : Nat) : Int).toNat = xs.length := by omega
    rw [hn] at LI hv hlen hne0
    have hR0 := hne0 (by omega)
    have hv' := hv hm
    obtain ⟨rfl, rfl⟩ := hv'
    have tb7 := tbB tb5 R5 B7
    refine ⟨_, rfl, src, D, 2, rfl, R7, by decide, by decide, fun e2 HA e0 e1 RA BA => ?_⟩
    obtain ⟨n2, rfl⟩ := Int.eq_ofNat_of_zero_le e0
    have hn2 : n2 ≤ 1 := by omega
    have tbA := tbB tb7 R7 BA
    have rA := BA _ _ r7 ra
    have qA := BA _ _ q7 qa
    have LA := BA _ _ (B7 _ _ L5 La) La
    have PA : Paired (TokV HA) ps xs := P5.mono fun v y ⟨u, z1, z2⟩ => ⟨u, z1, BA _ _ (B7 _ _ z2 (tk_ne R5 z2)) (tk_ne R5 z2)⟩
    refine ⟨[10], n2, congrArg V.str z_nl, rfl, hn2, ?_⟩
    have een : (if n2 = 0 then [] else [10]) = List.replicate n2 10 := by
      rcases (show n2 = 0 ∨ n2 = 1 by omega) with rfl | rfl <;> rfl
    rw [een]
    have sumL : ∀ (L : List (List Nat)), (∀ l ∈ L, l.length ≤ 5000) → ((L.map tx).map (·.length)).sum ≤ 5000 * L.length := fun L => by
      induction L with
      | nil => intro _; simp
      | cons x r ih =>
        intro h
        have h1 := h x (by simp)
        have h2 := ih fun l hl => h l (List.mem_cons_of_mem _ hl)
        simp only [List.map_cons, List.sum_cons, List.length_cons, tx_len] at h2 ⊢
        omega
    have stm : ∀ L : List (List Nat), stV L = (L.map tx).map V.str := fun L => by simp [stV]
    have lR : Rs.length ≤ 18 := by omega
    have lW : Ws.length ≤ 18 := by have := LI.len; omega
    have nl1 : (tx [10]).length = 1 := by rw [tx_len]; rfl
    have jR : (joinL Rs).length ≤ 100000 := by
      have := joinL_len Rs 5000 fun l hl => (LI.cl l hl).2
      omega
    have jW : (joinL Ws).length ≤ 100000 := by
      have := joinL_len Ws 5000 fun l hl => (LI.cw l hl).2
      omega
    have sR := sumL Rs fun l hl => (LI.cl l hl).2
    have sW := sumL Ws fun l hl => (LI.cw l hl).2
    rw [z_nl]
    refine ⟨⟨_, rfl⟩, _, rfl, tx [10], r, Rs.map tx, rfl, rfl, .inl (by rw [← stm]; exact SqL.of rA), by rw [List.length_map, nl1]; omega, ?_⟩
    rw [glued_tx]
    refine ⟨_, rfl, _, _, rfl, rfl, by rw [tx_len, tx_len, sizeLine_eq, List.length_replicate]; omega, ?_⟩
    rw [tx_app]
    refine ⟨_, rfl, joinL Rs ++ List.replicate n2 10, L, ps, xs, rfl, by rw [List.length_append, List.length_replicate]; omega, tbA, LA, PA, o4, by omega, LI.right rfl hR0 hn2, fun HB SB => ⟨_, rfl, iteF ?_⟩⟩
    have qB := SB _ _ qA
    have tbBB := tbA.same SB
    obtain ⟨nn, xw, ew, hw, rfl, rfl⟩ := LI.wrong hm hn2
    refine ⟨⟨_, rfl⟩, _, rfl, tx [10], q, Ws.map tx, rfl, rfl, .inl (by rw [← stm]; exact SqL.of qB), by rw [List.length_map, nl1]; omega, ?_⟩
    rw [glued_tx]
    refine ⟨_, rfl, _, _, rfl, rfl, by rw [tx_len, tx_len, sizeLine_eq, List.length_replicate]; omega, ?_⟩
    rw [tx_app]
    have lw : (joinL Ws ++ List.replicate n2 10).length ≤ 1000000 := by rw [List.length_append, List.length_replicate]; omega
    refine ⟨_, rfl, _, rfl, _, rfl, .non, joinL Ws ++ List.replicate n2 10, nn, xw, ew, rfl, .inl rfl, tbBB, lw, hw, fun HC tbC => ⟨_, rfl, iteF ?_⟩⟩
    refine ⟨_, rfl, _, _, rfl, rfl, _, rfl, ite2 (fun _ => k HC) (fun _ => ?_)⟩
    refine ⟨szL (n := 0) rfl (by decide), fun p1 hp1 => ⟨szL (n := 0) rfl (by decide), fun p2 hp2 => ⟨szL (n := 0) rfl (by decide), fun p3 hp3 => ⟨szL (n := 4) rfl (by decide), fun p4 hp4 => ?_⟩⟩⟩⟩
    have S1' : Same HC (L2.upd HC p1 (.tup [])) := fun b o e => by rw [upd_ne (ne_of_none e hp1)]; exact e
    have S2' : Same (L2.upd HC p1 (.tup [])) (L2.upd (L2.upd HC p1 (.tup [])) p2 (.tup [])) := fun b o e => by rw [upd_ne (ne_of_none e hp2)]; exact e
    have S3' : Same (L2.upd (L2.upd HC p1 (.tup [])) p2 (.tup [])) (L2.upd (L2.upd (L2.upd HC p1 (.tup [])) p2 (.tup [])) p3 (.tup [])) := fun b o e => by rw [upd_ne (ne_of_none e hp3)]; exact e
    have S4' : Same (L2.upd (L2.upd (L2.upd HC p1 (.tup [])) p2 (.tup [])) p3 (.tup [])) (L2.upd (L2.upd (L2.upd (L2.upd HC p1 (.tup [])) p2 (.tup [])) p3 (.tup [])) p4 (.tup [.str "program", .ref p1, .ref p2, .ref p3])) := fun b o e => by rw [upd_ne (ne_of_none e hp4)]; exact e
    refine ⟨_, rfl, _, rfl, _, rfl, .ref p4, joinL Ws ++ List.replicate n2 10, nn, xw, ew, rfl, .inr ⟨(fun z => by cases z), p4, p1, p2, p3, rfl, upd_same, S4' _ _ (S3' _ _ (S2' _ _ upd_same)), S4' _ _ (S3' _ _ upd_same), S4' _ _ upd_same⟩, (((tbC.same S1').same S2').same S3').same S4', lw, hw, fun HD _ => k HD⟩
end
end K29
end

section
set_option Elab.async false
set_option linter.all false
set_option maxRecDepth 100000
set_option maxHeartbeats 4000000
/-! Walks over nothing: enumerate of an empty tuple, tuple(generator expression) that yields nothing. -/
namespace PySem
open Sem (wp)
open PyProof.Rows
theorem meets_enum1 {v : Value} {o : Obj} {Hh : Heap → Prop} (B : Begins v o Hh) : Meets (Builtin.«enumerate.__new__» ⟨[.type "enumerate", v], []⟩) (fun _ R s => Hh s.heap ∧
      R (.ok (.ret (.ref (s.heap.push o).objs.size))) { s with heap := (s.heap.push o).push { cls := .type "enumerate", data := .fields #[.none, .bool false, .ref s.heap.objs.size, rawInt 0, .none, .none] } }) := .of_wp fun prog w A R s hs => by
  obtain ⟨hp, g, d, tk, os⟩ := s
  obtain ⟨hs1, hs2⟩ := hs
  have sub_e := sub_enumerate
  have it_o : ∀ {A' : Around} {E : Value → Shared → Prop} {Q : Value → Shared → Prop}, Q (.ref hp.objs.size) ⟨hp.push o, g, d, tk, os⟩ → wpAny (model prog w) A' (pyIter v) Q E ⟨hp, g, d, tk, os⟩ := fun q => B.iter prog w _ _ ⟨hp, g, d, tk, os⟩ _ hs1 q
  wp_walk using it_o
  refine wpAny_stack_any fun st0 => wpAny_pure ?_
  split
  · rename_i c0 _ _ _ _ _
    cases (c0 == Value.type "enumerate") <;> (wp_walk using it_o; exact ⟨_, rfl, hs2⟩)
  · wp_walk using it_o
    exact ⟨_, rfl, hs2⟩
section
variable {prog : Program} {w : World} {A : Around} {E : Value → Shared → Prop} {s : Shared}
/-- enumerate(v): two new cells -/
theorem enum1_begins {v : Value} {o : Obj} {Hh : Heap → Prop} {Q : Value → Shared → Prop} (B : Begins v o Hh) (hv : Hh s.heap)
    (hq : ∀ h', IsEnum h' (s.heap.objs.size + 1) s.heap.objs.size 0 .none → h'.get? s.heap.objs.size = some o → h'.objs.size = s.heap.objs.size + 2 → (∀ b u, s.heap.get? b = some u → h'.get? b = some u) → Q (.ref (s.heap.objs.size + 1)) { s with heap := h' }) :
    wpAny (model prog w) A (call (.type "enumerate") [v]) Q E s := by
  refine callType_new F.called_enumerate (by decide) (F.typeCall_enumerate_1 _) (F.newCall_enumerate_1 _) (fun obj => F.args_object_init_2 obj _) F.entry_enumerate_new (meets_enum1 B) ⟨hv, ?_⟩
  have size1 : (s.heap.push o).objs.size = s.heap.objs.size + 1 := Heap.size_push ..
  have en : IsEnum ((s.heap.push o).push { cls := .type "enumerate", data := .fields #[.none, .bool false, .ref s.heap.objs.size, rawInt 0, .none, .none] }) (s.heap.objs.size + 1) s.heap.objs.size 0 .none := by
    have z := Heap.get?_push_size (s.heap.push o) (o := { cls := .type "enumerate", data := .fields #[.none, .bool false, .ref s.heap.objs.size, rawInt 0, .none, .none] }) rfl
    rwa [size1] at z
  show _ ∧ _
  rw [size1]
  exact ⟨⟨_, en, rfl⟩, hq _ en (Heap.get?_push_of_some _ (Heap.get?_push_size _ B.free)) (by rw [Heap.size_push, size1]) fun b u z => Heap.get?_push_of_some _ (Heap.get?_push_of_some _ z)⟩
end
end PySem
namespace L2
open PySem PySem.Spec PyProof.Rows
/-! ### for over nothing -/
/-- the turns of an enumerate of the empty tuple at t -/
def Ite0 (K : PySem.W.Frag) (t : Addr) : It := ⟨fun _ _ => False, fun _ _ _ _ => False, fun _ H => SqT K H t []⟩
theorem turn_enum0 {P : Program} {w : World} {K : PySem.W.Frag} {elts : List Expr} {kk : Nat} {tpos : Pos} (t e it : Addr) : Turn P w K (.Tuple elts kk tpos) (Ite0 K t) [e, it] e (fun _ h => (∃ old, IsEnum h e it 0 old) ∧ h.IsTupleIter it t 0 ∧ e ≠ it ∧ t ≠ it) where
  mem := by simp
  obj := fun i h st b hb => by
    obtain ⟨⟨old, he⟩, ⟨o, ho, hc, hd⟩, _⟩ := st
    rcases (show b = e ∨ b = it by simpa using hb) with rfl | rfl
    · exact ⟨_, he, fun v q => nomatch q⟩
    · exact ⟨o, ho, fun v q => by rw [hd] at q; cases q⟩
  keep := fun i h h' st k => by
    obtain ⟨⟨old, he⟩, hi, hn⟩ := st
    exact ⟨⟨old, k e (by simp) _ he⟩, hi.at fun o q => k it (by simp) o q, hn⟩
  item := fun X _ _ _ _ i pins s σ H E _ _ _ hg => False.elim hg
  done := by
    intro X hP hw hK hc i pins s σ H E I hf st hg
    subst hP hw hK
    obtain ⟨⟨old, he⟩, hit, hne, hti⟩ := st
    obtain ⟨its, rv, p, hz⟩ := I.tuple hg
    cases rv
    obtain ⟨f0, f1, f2, f3, f4, f5⟩ := hf it (by simp)
    exact wpAny_pyNext_enum_endD (n := 0) (Draws.tuple (A := X.A.in1) (show X.A.handled = none from I.ok.hd hc) it t hti #[]) he ⟨hit, p⟩ fun h' eb => ⟨rfl, I.turned (t' := s.toks) (fun b o hb q => eb b o hb q) f0 f1 f3 f4 f5⟩
  self := fun A i s Q E st h => let ⟨⟨_, he⟩, _⟩ := st; wpAny_pyIter_enum he h
def iEnum0 (K : PySem.W.Frag) (ta : TA) : TI := fun σ H R => ta σ H fun vs H1 => ∃ t, vs = [.ref t] ∧ SqT K H1 t [] ∧ R (Ite0 K t) H1
theorem tupAt {h : Heap} {t : Addr} {vs : Array Value} (p : IsTup h t vs) : h.IsTuple t vs := p
section
variable {X : Cx}
theorem pi_enum0 {e : Expr} {ta : TA} {p pos tpos : Pos} {elts : List Expr} {kk : Nat} (hg : Gl X "enumerate") (hm : X.mg "enumerate" = none) (ha : PA X [e] ta) (hs : starEach [e] X.env = [(false, eval e X.env)] := by rfl) : PI X (.Tuple elts kk tpos) (.Call (.Name "enumerate" p) [e] [] pos) (iEnum0 X.K ta) := by
  refine ⟨fun pins s σ H R I h => ?_⟩
  refine Call_ (ld_blt I hg hm boot_enumerate (PyProof.Rows.callWith_type1 (thn (ha.run pos pins s σ H _ I h) fun us s1 ⟨vs, H1, I1, r1, t, ex, hq, q⟩ => ?_) hs rfl))
  subst ex
  cases r1 with
  | cons r rr =>
    cases rr
    cases r
    obtain ⟨its, rv, p', hz⟩ := I1.tuple hq
    cases rv
    refine enum1_begins (begins_tuple t #[]) p' fun h' he hit hsz hk => wpAny_pyIter_enum he ?_
    have I2 : Inv X pins σ H1 { s1 with heap := h' } := I1.kept (t' := s1.toks) hk
    obtain ⟨u, hu⟩ : ∃ u, s1.heap.get? t = some u := let ⟨o, z, _⟩ := p'; ⟨o, z⟩
    have tlt : t < s1.heap.objs.size := Heap.lt_size hu
    refine ⟨s1.heap.objs.size + 1, [s1.heap.objs.size + 1, s1.heap.objs.size], _, _, H1, rfl, I2, turn_enum0 t (s1.heap.objs.size + 1) s1.heap.objs.size, ⟨⟨.none, he⟩, ⟨_, hit, rfl, rfl⟩, Nat.succ_ne_self _, Nat.ne_of_lt tlt⟩, fun b hb => ?_, q⟩
    have hle : s1.heap.objs.size ≤ b := by
      rcases (show b = s1.heap.objs.size + 1 ∨ b = s1.heap.objs.size by simpa using hb) with z | z
      · rw [z]; exact Nat.le_add_right _ _
      · rw [z]; exact Nat.le_refl _
    exact I1.fpOk hle (I1.hok.fresh hle)
end
/-- a for whose walk ends at once -/
theorem for_none {J : It} {g : TG} {tb : TS} {D : Ends} {σ : L2.St} {H : Hp} (hs : J.stop 0 H) (hd : D.nx σ H) : ∃ W : Nat → Nat → L2.St → Hp → Prop, (∃ m, W 0 m σ H) ∧ ∀ i m σ H, W i m σ H →
    (J.stop i H ∧ D.nx σ H) ∨ (J.go i H ∧ ∃ N : L2.St → Hp → Prop, (∀ σ' H', N σ' H' → ∃ m', m' < m ∧ W (i + 1) m' σ' H') ∧ ∀ x H', J.yld i H x H' → g x σ H' fun σ2 H2 => tb { D with nx := N, ct := N, bk := D.nx } σ2 H2) :=
  ⟨fun i m σ' H' => i = 0 ∧ σ' = σ ∧ H' = H, ⟨0, rfl, rfl, rfl⟩, fun i m σ' H' ⟨a, b, c⟩ => by subst a b c; exact .inl ⟨hs, hd⟩⟩
theorem lc_none {J : It} {g : TG} {tt : TT} {te : TE} {vs : List Nat} {σ : L2.St} {H1 : Hp} {D : Addr} {Qd : Hp → Prop} (hs : J.stop 0 (upd H1 D (.lst []))) (hd : Qd (upd H1 D (.lst []))) : ∃ W : Nat → Nat → Hp → Prop, (∃ m, W 0 m (upd H1 D (.lst []))) ∧ ∀ i m H, W i m H →
    (J.stop i H ∧ Qd H) ∨ (J.go i H ∧ ∃ Nx : Hp → Prop, (∀ H', Nx H' → ∃ m', m' < m ∧ W (i + 1) m' H') ∧ ∀ x H', J.yld i H x H' → g x (wipe σ vs) H' fun σ2 H2 => wipe σ2 vs = wipe σ vs ∧ tt σ2 H2 fun b H3 =>
      if b = true then te σ2 H3 fun y H4 => ∃ acc, H4 D = some (.lst acc) ∧ acc.length < sizeLine ∧ Nx (upd H4 D (.lst (acc ++ [y]))) else Nx H3) :=
  ⟨fun i m H' => i = 0 ∧ H' = upd H1 D (.lst []), ⟨0, rfl, rfl⟩, fun i m H' ⟨a, b⟩ => by subst a b; exact .inl ⟨hs, hd⟩⟩
end L2
end

section
set_option Elab.async false
set_option linter.all false
set_option maxRecDepth 100000
set_option maxHeartbeats 4000000
/-! tuple(generator expression) over nothing. -/
namespace L2G
open PySem PySem.Spec PyProof.Rows L2
theorem walks0 {prog : Program} {w : World} {A : Around} {I : Addr} {fp wr : List Addr} {Pf : Nat → Value → Prop} {S0 : Nat → Heap → Prop} (W : Walks prog w A I fp wr 0 Pf S0) : Walks prog w A I fp wr 0 (fun _ _ => False) S0 :=
  ⟨W.sub, W.frame, fun _ _ _ _ h => absurd h (Nat.not_lt_zero _), W.done, W.self⟩
theorem walksU0 {prog : Program} {w : World} {A : Around} {I : Addr} {fp wr : List Addr} {Pt : Nat → Array Value → Prop} {S0 : Nat → Heap → Prop} {Mid : Nat → Addr → Heap → Prop} (W : WalksU prog w A I fp wr 0 Pt S0 Mid) : WalksU prog w A I fp wr 0 (fun _ _ => False) S0 Mid :=
  ⟨W.sub, W.frame, fun _ _ _ _ h => absurd h (Nat.not_lt_zero _), W.go, W.apart, W.done, W.self⟩
/-- an iterator that yields nothing has come; sB: the state it was made in -/
def Came (X : Cx) (pins : List (Addr × Obj)) (σ : L2.St) (R : Hp → Prop) (WK : Addr → List Addr → List Addr → (Nat → Heap → Prop) → Prop) (it : Value) (s2 : Shared) : Prop :=
  ∃ (Ia : Addr) (fp wr : List Addr) (S0 : Nat → Heap → Prop) (sB : Shared) (H1 : Hp) (h2 : Heap) (t2 : Nat), it = .ref Ia ∧ s2 = { sB with heap := h2, toks := t2 } ∧ Inv X pins σ H1 sB ∧ R H1 ∧ (∀ b o, sB.heap.get? b = some o → h2.get? b = some o) ∧ sB.heap.objs.size ≤ h2.objs.size ∧
    (∀ b ∈ wr, sB.heap.objs.size ≤ b) ∧ WK Ia fp wr S0 ∧ (∀ h', (∀ b o, o.cls ≠ .none → h2.get? b = some o → h'.get? b = some o) → S0 0 h') ∧ ∀ b ∈ fp, b < h2.objs.size
/-- the scope of a generator expression in a def with the scope s0, its target x -/
structure GenZ (s0 scope : Scope) (x : Str) : Prop where
  kind : scope.kind = .function
  co : scope.isCoroutine = false
  cell : ∀ y ∈ scope.names, y.2 ≠ .cell
  dot : scope.names.lookup (".0" : Str) = some NameKind.local
  loc : scope.names.lookup x = some .local
  free : ∀ y ∈ scope.names, y.2 = .free → s0.names.lookup y.1 = some .cell ∨ s0.names.lookup y.1 = some .free
theorem GenZ.cells {X : Cx} {scope : Scope} {x : Str} (S : GenZ X.env.scope scope x) {pins : List (Addr × Obj)} {σ : L2.St} {H : Hp} {s : Shared} (I : Inv X pins σ H s) : ∀ y ∈ scope.names, y.2 = .free → ∃ c, X.env.cells.lookup y.1 = some c := fun y hy e => by
  rcases S.free y hy e with k | k
  · exact I.ok.has _ (.inl k)
  · exact I.ok.has _ (.inr k)
def genC (s0 scope : Scope) : Bool := scope.names.all fun y => decide (y.2 ≠ .cell) && (!decide (y.2 = .free) || (decide (s0.names.lookup y.1 = some .cell) || decide (s0.names.lookup y.1 = some .free)))
theorem genZ_by {s0 scope : Scope} {x : Str} (h : genC s0 scope = true) (k : scope.kind = .function := by rfl) (c : scope.isCoroutine = false := by rfl) (d : scope.names.lookup (".0" : Str) = some NameKind.local := by rfl) (l : scope.names.lookup x = some .local := by rfl) : GenZ s0 scope x := by
  unfold genC at h
  simp only [Bool.and_eq_true, List.all_eq_true, decide_eq_true_eq] at h
  refine ⟨k, c, fun y hy => (h y hy).1, d, l, fun y hy e => ?_⟩
  have := (h y hy).2
  simpa [e] using this
abbrev TI0 : Type := L2.St → Hp → (Hp → Prop) → Prop
structure P0 (X : Cx) (iter : Expr) (ti : TI0) : Prop where
  run : ∀ (pins : List (Addr × Obj)) (s : Shared) (σ : L2.St) (H : Hp) (R : Hp → Prop), Inv X pins σ H s → ti σ H R → wpAny (model X.prog X.w) X.A (eval iter X.env) (fun xv s1 => wpAny (model X.prog X.w) X.A (pyIter xv)
    (Came X pins σ R fun Ia fp wr S0 => ∀ A' : Around, A'.handled = none → Walks X.prog X.w A' Ia fp wr 0 (fun _ _ => False) S0) X.xe s1) X.xe s
structure P0T (X : Cx) (iter : Expr) (ti : TI0) : Prop where
  run : ∀ (pins : List (Addr × Obj)) (s : Shared) (σ : L2.St) (H : Hp) (R : Hp → Prop), Inv X pins σ H s → ti σ H R → wpAny (model X.prog X.w) X.A (eval iter X.env) (fun xv s1 => wpAny (model X.prog X.w) X.A (pyIter xv)
    (Came X pins σ R fun Ia fp wr S0 => ∃ Mid, ∀ A' : Around, A'.handled = none → WalksU X.prog X.w A' Ia fp wr 0 (fun _ _ => False) S0 Mid) X.xe s1) X.xe s
section
variable {X : Cx}
theorem p0_tup {e : Expr} {te : TE} (he : PE X e te) : P0 X e fun σ H R => te σ H fun x H1 => ∃ t, x = .ref t ∧ SqT X.K H1 t [] ∧ R H1 := by
  refine ⟨fun pins s σ H R I h => thn (he.run pins s σ H _ I h) fun xv s1 ⟨x, H1, I1, r1, t, ex, hq, q⟩ => ?_⟩
  subst ex
  obtain rfl : xv = Value.ref t := r1
  obtain ⟨its, rv, p, hz⟩ := I1.tuple hq
  cases rv
  obtain ⟨o, ho, hoc, hod⟩ := (show s1.heap.IsTuple t #[] from p)
  have tlt : t < s1.heap.objs.size := Heap.lt_size ho
  refine wpAny_pyIter_tuple (show s1.heap.IsTuple t #[] from p) ⟨s1.heap.objs.size, [s1.heap.objs.size, t], [s1.heap.objs.size], fun i h => h.IsTupleIter s1.heap.objs.size t i ∧ h.IsTuple t #[], s1, H1, _, _, rfl, rfl, I1, q, fun b u z => Heap.get?_push_of_some _ z, by rw [Heap.size_push]; exact Nat.le_succ _,
    fun b hb => by rw [List.mem_singleton.mp hb]; exact Nat.le_refl _, fun A' hA => walks0 (Walks.tuple hA _ _ (Nat.ne_of_lt tlt) #[]), fun h' k => ⟨⟨_, k _ _ ?_ (Heap.get?_push_size _ rfl), rfl, rfl⟩, ⟨o, k _ _ ?_ (Heap.get?_push_of_some _ ho), hoc, hod⟩⟩, fun b hb => ?_⟩
  · intro z; cases z
  · rw [hoc]; intro z; cases z
  · rw [Heap.size_push]
    rcases (show b = s1.heap.objs.size ∨ b = t by simpa using hb) with z | z
    · rw [z]; exact Nat.lt_succ_self _
    · rw [z]; exact Nat.lt_succ_of_lt tlt
theorem p0_rng {a : Expr} {ta : TA} {p pos : Pos} (hg : Gl X "range") (hm : X.mg "range" = none) (ha : PA X [a] ta) (hs : starEach [a] X.env = [(false, eval a X.env)] := by rfl) : P0 X (.Call (.Name "range" p) [a] [] pos) fun σ H R => ta σ H fun vs H1 => vs = [.int 0] ∧ R H1 := by
  refine ⟨fun pins s σ H R I h => ?_⟩
  refine Call_ (ld_blt I hg hm boot_range (PyProof.Rows.callWith_type1 (thn (ha.run pos pins s σ H _ I h) fun us s1 ⟨vs, H1, I1, r1, ex, q⟩ => ?_) hs rfl))
  subst ex
  cases r1 with
  | cons r rr =>
    cases rr
    obtain ⟨t, rfl⟩ := r
    refine call_range_1 (wpAny_pyIter_range (IsRange.new ..) (by decide) ?_)
    generalize er : ({ cls := .type "range", data := .fields #[.int 0 s1.toks, .int 0 t, .int 1 (s1.toks + 1)] } : Obj) = ro
    refine ⟨(s1.heap.push ro).objs.size, [(s1.heap.push ro).objs.size], [(s1.heap.push ro).objs.size], fun i h => IsRangeIter h (s1.heap.push ro).objs.size (0 + (i : Nat) * 1) (((0 : Nat) : Int) - (i : Nat)) 1, s1, H1, _, _, rfl, rfl, I1, q, fun b u z => Heap.get?_push_of_some _ (Heap.get?_push_of_some _ z), ?_,
      fun b hb => ?_, fun A' hA => walks0 (Walks.range hA _ 0 1 0), fun h' k => ?_, fun b hb => ?_⟩
    · rw [Heap.size_push, Heap.size_push]; exact Nat.le_succ_of_le (Nat.le_succ _)
    · rw [List.mem_singleton.mp hb, Heap.size_push]; exact Nat.le_succ _
    · exact k _ _ (by intro z; cases z) (Heap.get?_push_size _ rfl)
    · rw [List.mem_singleton.mp hb]
      show (s1.heap.push ro).objs.size < ((s1.heap.push ro).push _).objs.size
      rw [Heap.size_push (s1.heap.push ro)]
      exact Nat.lt_succ_self _
theorem p0_enum {e : Expr} {ta : TA} {p pos : Pos} (hg : Gl X "enumerate") (hm : X.mg "enumerate" = none) (ha : PA X [e] ta) (hs : starEach [e] X.env = [(false, eval e X.env)] := by rfl) : P0T X (.Call (.Name "enumerate" p) [e] [] pos) fun σ H R => ta σ H fun vs H1 => ∃ t, vs = [.ref t] ∧ SqT X.K H1 t [] ∧ R H1 := by
  refine ⟨fun pins s σ H R I h => ?_⟩
  refine Call_ (ld_blt I hg hm boot_enumerate (PyProof.Rows.callWith_type1 (thn (ha.run pos pins s σ H _ I h) fun us s1 ⟨vs, H1, I1, r1, t, ex, hq, q⟩ => ?_) hs rfl))
  subst ex
  cases r1 with
  | cons r rr =>
    cases rr
    cases r
    obtain ⟨its, rv, p', hz⟩ := I1.tuple hq
    cases rv
    obtain ⟨o, ho, hoc, hod⟩ := (show s1.heap.IsTuple t #[] from p')
    have tlt : t < s1.heap.objs.size := Heap.lt_size ho
    refine enum1_begins (begins_tuple t #[]) p' fun h' he hit hsz hk => wpAny_pyIter_enum he ⟨s1.heap.objs.size + 1, (s1.heap.objs.size + 1) :: [s1.heap.objs.size, t], [s1.heap.objs.size + 1, s1.heap.objs.size], fun i h => (∃ old, IsEnum h (s1.heap.objs.size + 1) s1.heap.objs.size i old) ∧ (h.IsTupleIter s1.heap.objs.size t i ∧ h.IsTuple t #[]), s1, H1, _, _, rfl, rfl, I1, q, hk, by omega, fun b hb => ?_,
      ⟨_, fun A' hA => walksU0 (WalksT.enumerateD (n := 0) (Draws.tuple (A := A'.in1) (show A'.handled = none from hA) s1.heap.objs.size t (Nat.ne_of_lt tlt) #[]) (s1.heap.objs.size + 1) (Nat.succ_ne_self _) ?_ (by simp)).toU⟩, fun h'' k => ⟨⟨.none, k _ _ ?_ he⟩, ⟨_, k _ _ ?_ hit, rfl, rfl⟩, ⟨o, k _ _ ?_ (hk _ _ ho), hoc, hod⟩⟩, fun b hb => ?_⟩
    · rcases (show b = s1.heap.objs.size + 1 ∨ b = s1.heap.objs.size by simpa using hb) with z | z
      · rw [z]; exact Nat.le_succ _
      · rw [z]; exact Nat.le_refl _
    · intro hmem
      rcases (show s1.heap.objs.size + 1 = s1.heap.objs.size ∨ s1.heap.objs.size + 1 = t by simpa using hmem) with z | z
      · exact Nat.succ_ne_self _ z
      · rw [← z] at tlt; exact Nat.lt_irrefl _ (Nat.lt_of_succ_lt tlt)
    · intro z; cases z
    · intro z; cases z
    · rw [hoc]; intro z; cases z
    · rw [hsz]
      rcases (show b = s1.heap.objs.size + 1 ∨ b = s1.heap.objs.size ∨ b = t by simpa using hb) with z | z | z
      · rw [z]; exact Nat.lt_succ_self _
      · rw [z]; exact Nat.lt_succ_of_lt (Nat.lt_succ_self _)
      · rw [z]; exact Nat.lt_succ_of_lt (Nat.lt_succ_of_lt tlt)
/-- the code object of a generator expression, the built-ins' dict -/
theorem code_bi {c P : Addr} {gpos : Pos} {q : Str} {sc : Scope} {pins : List (Addr × Obj)} {σ : L2.St} {H1 : Hp} {sB : Shared} {h2 : Heap} {t2 : Nat} {ps : Array Value} {Φ : Value → Addr → Shared → Prop} (TB : GxR.TabB X.base X.mg c P) (hcode : X.env.code = .ref c)
    (I1 : Inv X pins σ H1 sB) (hP : H1 P = some (.tbl ps)) (ht : TriplesOk ps.toList) (kp : ∀ b o, sB.heap.get? b = some o → h2.get? b = some o)
    (hΦ : ∀ code bi h3 tk more, (∀ b u, b ≠ P → h2.get? b = some u → h3.get? b = some u) → h2.objs.size ≤ h3.objs.size → h3.get? P = some { cls := .none, data := .fields (ps ++ more) } → TriplesOk (ps ++ more).toList → h3.NoLimit → Φ code bi { sB with heap := h3, toks := tk }) :
    h2.NoLimit ∧ wpAny (model X.prog X.w) X.A (genexprCode X.env gpos q sc) (fun code s3 => wpAny (model X.prog X.w) X.A (builtinsFor X.env.globals X.env.builtins) (fun bi s4 => Φ code bi s4) X.xe s3) X.xe { sB with heap := h2, toks := t2 } := by
  have atP : sB.heap.get? P = some { cls := .none, data := .fields ps } := I1.hok P _ hP
  have atP2 := kp _ _ atP
  have hd2 : PySem.W.CodeHd h2 c P := TB.code.keeps fun b u e => kp _ _ (I1.bk b u e)
  have lim2 : h2.NoLimit := I1.nolimit.keeps kp
  have neP : cStatics ≠ P := fun e => by
    obtain ⟨_, ⟨o', es, ep, ho, hd, _⟩, _⟩ := I1.nolimit
    rw [e, atP] at ho
    cases ho
    cases hd
  have go : ∀ (code : Value) (h3 : Heap) (tk : Nat) (more : Array Value), Heap.ExtBut P h2 h3 → h2.objs.size ≤ h3.objs.size → h3.get? P = some { cls := .none, data := .fields (ps ++ more) } → TriplesOk (ps ++ more).toList →
      wpAny (model X.prog X.w) X.A (builtinsFor X.env.globals X.env.builtins) (fun bi s4 => Φ code bi s4) X.xe { sB with heap := h3, toks := tk } := by
    intro code h3 tk more hx hsz h3P h3t
    obtain ⟨bm, ob, b1, b2, b3, b4, b5, b6, b7, b8⟩ := TB.bm
    have kp3 : ∀ b u, b ≠ P → h2.get? b = some u → h3.get? b = some u := fun b u hb e => hx b u hb e
    exact wpAny_builtinsFor (m := X.mg) (by rw [I1.ok.glob]; exact ((I1.mod.glob.keeps I1.bk).keeps kp).extBut hx TB.gP) b1 b2 (kp3 _ _ b4 (kp _ _ (I1.bk _ _ b5))) b6 b7 b8 (hΦ code _ h3 tk more kp3 hsz h3P h3t (lim2.extBut hx neP))
  refine ⟨lim2, ?_⟩
  cases hf : codeAmong gpos ps.toList with
  | none =>
    refine wpAny_genexprCodeX hcode (hd2.code atP2 ht) (hd2.tab atP2) hf fun c' h' tk hx hge hlt hco' _ htab' _ => ?_
    obtain ⟨o1, vs, f1, tf, fl, tg, inF, tx, tt, op, _, _, _, _, _, _, _, _, _, htr, _⟩ := hco'
    exact go _ h' tk _ hx (Nat.le_trans hge (Nat.le_of_lt hlt)) htab'.2 htr
  | some cv =>
    refine wpAny_genexprCode_hit hcode (hd2.code atP2 ht) hf ?_
    have e0 : ps ++ #[] = ps := by simp
    exact go cv h2 t2 #[] (Heap.ExtBut.refl _ _) (Nat.le_refl _) (by rw [e0]; exact atP2) (by rw [e0]; exact ht)
/-- tuple() of the generator g, which yields nothing -/
theorem tuple_none {P g : Addr} {pins : List (Addr × Obj)} {σ : L2.St} {Q : VK} {H1 : Hp} {sB s5 : Shared} {ps more : Array Value} {fp wr : List Addr} {G : Array GenState → Array GenState → Prop} {n : Nat} {F : Nat → Value → Prop} {S5 : Nat → Shared → Prop}
    (I1 : Inv X pins σ H1 sB) (hP : H1 P = some (.tbl ps)) (ht : TriplesOk (ps ++ more).toList) (hn : n = 0) (W5 : WalksS X.prog X.w X.A.in4 g fp wr G n F S5) (st5 : S5 0 s5) (ty5 : ∀ i s9, S5 i s9 → s9.TypeIs (.ref g) "generator") (fl : ∀ b ∈ fp, b < s5.heap.objs.size) (hg : g ∈ fp)
    (kp : ∀ b u, b ≠ P → sB.heap.get? b = some u → s5.heap.get? b = some u) (atP : s5.heap.get? P = some { cls := .none, data := .fields (ps ++ more) }) (nwr : ∀ b u, sB.heap.get? b = some u → b ∉ wr) (hos : s5.os = sB.os) (hdr : True) (bare5 : AllBare s5.gens)
    (hmv : ∀ gs, G s5.gens gs → AllBare gs) (hq : ∀ t, (upd H1 P (.tbl (ps ++ more))) t = none → Q (.ref t) (upd (upd H1 P (.tbl (ps ++ more))) t (.tup []))) :
    wpAny (model X.prog X.w) X.A (call (.type "tuple") [.ref g]) (EP X pins σ Q) X.xe s5 := by
  refine call_tuple_gen (W5.in4_3) ty5 st5 fl hg (fun s' acc hm hacc => ?_) (by rw [hn]; exact Nat.zero_le _)
  have ea : acc = #[] := Array.eq_empty_of_size_eq_zero (by rw [hacc.1, hn])
  subst ea
  have hPs : sB.heap.get? P = some { cls := .none, data := .fields ps } := I1.hok P _ hP
  have J := GxR.inv_tab (more := more) (h' := s'.heap) (g' := s'.gens) (d' := s'.drawn) (t' := s'.toks) I1 hP (fun b u hb e => hm.heap b u (nwr b u e) (kp b u hb e)) (hm.heap P _ (nwr P _ hPs) atP) (hmv _ hm.gens)
  rw [GxR.sh_eta sB s' (hm.os.trans hos)] at J
  have J2 : Inv X pins σ (upd (upd H1 P (.tbl (ps ++ more))) s'.heap.objs.size (.tup [])) { s' with heap := s'.heap.push { cls := .type "tuple", data := .seq #[] } } :=
    J.laid (t' := s'.toks) (fun b o e => Heap.get?_push_of_some _ e) (Nat.le_refl _) (show ObjOk X.prog X.w _ _ _ (.tup []) from ⟨Nat.zero_le _, [], .nil, IsTup.new _ _⟩)
  exact ⟨.ref s'.heap.objs.size, _, J2, rfl, hq _ (J.hok.fresh (Nat.le_refl _))⟩
/-- the reading of tuple(elt for .. in ..) that yields nothing: the table may have grown -/
def tT0 (P : Addr) (ti : TI0) : TE := fun σ H Q => ti σ H fun H1 => ∃ ps : Array Value, H1 P = some (.tbl ps) ∧ TriplesOk ps.toList ∧ ∀ H2 t, (∃ ps' : Array Value, H2 P = some (.tbl ps') ∧ TriplesOk ps'.toList) → (∀ b, b ≠ P → H2 b = H1 b) → H2 t = none → Q (.ref t) (upd H2 t (.tup []))
theorem gen0 {c P : Addr} {elt iter : Expr} {ifs : List Expr} {x : Str} {px gpos : Pos} {sc : Scope} {ti : TI0} {k : Nat} {pins : List (Addr × Obj)} {σ : L2.St} {H : Hp} {s : Shared} {Q : VK} {Q' : Value → Shared → Prop}
    (hr : Room k X.A) (TB : GxR.TabB X.base X.mg c P) (hcode : X.env.code = .ref c) (S : GenZ X.env.scope sc x) (hi : P0 X iter ti) (hs : ∀ v, genFold iter X.env v = pure v) (I : Inv X pins σ H s) (h : tT0 P ti σ H Q)
    (hQ : ∀ g s5, wpAny (model X.prog X.w) X.A (call (.type "tuple") [.ref g]) (EP X pins σ Q) X.xe s5 → Q' (.ref g) s5) : wpAny (model X.prog X.w) X.A (eval (.GeneratorExp elt [⟨.Name x px, iter, ifs, 0⟩] sc gpos) X.env) Q' X.xe s := by
  refine wpAny_GeneratorExp_walksQ hr.hd S.co (closure_ok (S.cells I)) S.cell S.dot S.loc S.kind (by have := hr.dp; omega) ?_ hs
  refine thn (hi.run pins s σ H _ I h) fun xv s1 h1 => thn h1 fun it s2 came => ?_
  obtain ⟨Ia, fp, wr, S0, sB, H1, h2, t2, rfl, rfl, I1, ⟨ps, hP, ht, q⟩, kp, sz, wrs, W, st, fps⟩ := came
  have cl : cStatics < sB.heap.objs.size := let ⟨_, hns, _⟩ := I1.nolimit; hns.lt
  have wrC : cStatics ∉ wr := fun z => Nat.lt_irrefl _ (Nat.lt_of_lt_of_le cl (wrs _ z))
  have atP0 : sB.heap.get? P = some { cls := .none, data := .fields ps } := I1.hok P _ hP
  have atP2 := kp _ _ atP0
  refine code_bi TB hcode I1 hP ht kp fun code bi h3 tk more k3 sz3 P3 t3 lim3 => ?_
  have st3 : S0 0 h3 := st h3 fun b o hc e => k3 b o (fun z => by rw [z, atP2] at e; cases e; exact hc rfl) e
  refine ⟨Ia, fp, wr, 0, fun _ _ => False, S0, fun _ => true, fun _ _ => False, rfl, W, st3, fun b hb => Nat.lt_of_lt_of_le (fps b hb) sz3, lim3, wrC, fun _ _ => ⟨fun _ _ _ _ _ _ _ h => False.elim h, fun _ _ _ _ _ _ _ h => False.elim h⟩, fun g h5 tk5 gs hgb hag hsz5 hk5 W5 hgat => hQ g _ ?_⟩
  have size3 : sB.heap.objs.size ≤ h3.objs.size := Nat.le_trans sz sz3
  refine tuple_none (more := more) I1 hP t3 (by simp [passing]) W5 hgat (fun i s9 h9 => h9.1.typeIs) (fun b hb => ?_) List.mem_cons_self (fun b u hb e => hk5 b u (k3 b u hb (kp b u e))) (hk5 P _ P3) (fun b u e hm => ?_) rfl trivial (I1.bare.push hgb) (fun gs' hG => ?_) (fun t ht2 => q _ t ⟨_, upd_same, t3⟩ (fun b hb => upd_ne hb) ht2)
  · show b < h5.objs.size
    rw [show h5.objs.size = g + 1 from hsz5]
    have hag' : h3.objs.size < g := hag
    rcases List.mem_cons.mp hb with z | z
    · rw [z]; exact Nat.lt_succ_self g
    · rcases List.mem_cons.mp z with z | z
      · rw [z]; exact Nat.lt_succ_of_lt hag'
      · have z2 : b < h3.objs.size := List.mem_range.mp z
        exact Nat.lt_succ_of_lt (Nat.lt_trans z2 hag')
  · have bl := Heap.lt_size e
    rcases List.mem_cons.mp hm with z | z
    · have z' : b = h3.objs.size := z
      rw [z'] at bl
      exact Nat.lt_irrefl _ (Nat.lt_of_lt_of_le bl size3)
    · exact Nat.lt_irrefl _ (Nat.lt_of_lt_of_le bl (wrs _ z))
  · exact (I1.bare.push hgb).moved hG
theorem gen0T {c P : Addr} {elt iter : Expr} {ifs : List Expr} {x y : Str} {px py tpos gpos : Pos} {kt : Nat} {sc : Scope} {ti : TI0} {k : Nat} {pins : List (Addr × Obj)} {σ : L2.St} {H : Hp} {s : Shared} {Q : VK} {Q' : Value → Shared → Prop}
    (hr : Room k X.A) (TB : GxR.TabB X.base X.mg c P) (hcode : X.env.code = .ref c) (S : GenZ X.env.scope sc x) (hy : sc.names.lookup y = some .local) (hxy : x ≠ y) (hi : P0T X iter ti) (hs : ∀ v, genFold iter X.env v = pure v) (I : Inv X pins σ H s) (h : tT0 P ti σ H Q)
    (hQ : ∀ g s5, wpAny (model X.prog X.w) X.A (call (.type "tuple") [.ref g]) (EP X pins σ Q) X.xe s5 → Q' (.ref g) s5) : wpAny (model X.prog X.w) X.A (eval (.GeneratorExp elt [⟨.Tuple [.Name x px, .Name y py] kt tpos, iter, ifs, 0⟩] sc gpos) X.env) Q' X.xe s := by
  refine wpAny_GeneratorExp_walksQT hr.hd S.co (closure_ok (S.cells I)) S.cell S.dot S.loc hy hxy S.kind (by have := hr.dp; omega) ?_ hs
  refine thn (hi.run pins s σ H _ I h) fun xv s1 h1 => thn h1 fun it s2 came => ?_
  obtain ⟨Ia, fp, wr, S0, sB, H1, h2, t2, rfl, rfl, I1, ⟨ps, hP, ht, q⟩, kp, sz, wrs, ⟨Mid, W⟩, st, fps⟩ := came
  have cl : cStatics < sB.heap.objs.size := let ⟨_, hns, _⟩ := I1.nolimit; hns.lt
  have wrC : cStatics ∉ wr := fun z => Nat.lt_irrefl _ (Nat.lt_of_lt_of_le cl (wrs _ z))
  have atP0 : sB.heap.get? P = some { cls := .none, data := .fields ps } := I1.hok P _ hP
  have atP2 := kp _ _ atP0
  refine code_bi TB hcode I1 hP ht kp fun code bi h3 tk more k3 sz3 P3 t3 lim3 => ?_
  have st3 : S0 0 h3 := st h3 fun b o hc e => k3 b o (fun z => by rw [z, atP2] at e; cases e; exact hc rfl) e
  refine ⟨Ia, fp, wr, 0, fun _ _ => False, S0, Mid, fun _ => true, fun _ _ => False, rfl, W, fun _ _ h => False.elim h, st3, fun b hb => Nat.lt_of_lt_of_le (fps b hb) sz3, lim3, wrC, fun _ _ => ⟨fun _ _ _ _ _ _ _ _ h => False.elim h, fun _ _ _ _ _ _ _ _ h => False.elim h⟩, fun g h5 tk5 gs hgb hag hsz5 hk5 W5 hgat => hQ g _ ?_⟩
  have size3 : sB.heap.objs.size ≤ h3.objs.size := Nat.le_trans sz sz3
  refine tuple_none (more := more) I1 hP t3 (by simp [passing]) W5 hgat (fun i s9 h9 => h9.1.typeIs) (fun b hb => ?_) List.mem_cons_self (fun b u hb e => hk5 b u (k3 b u hb (kp b u e))) (hk5 P _ P3) (fun b u e hm => ?_) rfl trivial (I1.bare.push hgb) (fun gs' hG => ?_) (fun t ht2 => q _ t ⟨_, upd_same, t3⟩ (fun b hb => upd_ne hb) ht2)
  · show b < h5.objs.size
    rw [show h5.objs.size = g + 1 from hsz5]
    have hag' : h3.objs.size < g := hag
    rcases List.mem_cons.mp hb with z | z
    · rw [z]; exact Nat.lt_succ_self g
    · rcases List.mem_cons.mp z with z | z
      · rw [z]; exact Nat.lt_succ_of_lt hag'
      · have z2 : b < h3.objs.size := List.mem_range.mp z
        exact Nat.lt_succ_of_lt (Nat.lt_trans z2 hag')
  · have bl := Heap.lt_size e
    rcases List.mem_cons.mp hm with z | z
    · have z' : b = h3.objs.size := z
      rw [z'] at bl
      exact Nat.lt_irrefl _ (Nat.lt_of_lt_of_le bl size3)
    · exact Nat.lt_irrefl _ (Nat.lt_of_lt_of_le bl (wrs _ z))
  · exact (I1.bare.push hgb).moved hG
theorem pe_tup0 {c P : Addr} {elt iter : Expr} {ifs : List Expr} {x : Str} {px gpos : Pos} {sc : Scope} {ti : TI0} {k : Nat} {p pos : Pos}
    (hr : Room k X.A) (TB : GxR.TabB X.base X.mg c P) (hcode : X.env.code = .ref c) (hg : Gl X "tuple") (hm : X.mg "tuple" = none) (S : GenZ X.env.scope sc x) (hi : P0 X iter ti) (hs : ∀ v, genFold iter X.env v = pure v := by intro _; rfl)
    (he : starEach [.GeneratorExp elt [⟨.Name x px, iter, ifs, 0⟩] sc gpos] X.env = (false, eval (.GeneratorExp elt [⟨.Name x px, iter, ifs, 0⟩] sc gpos) X.env) :: starEach [] X.env := by rfl) : PE X (.Call (.Name "tuple" p) [.GeneratorExp elt [⟨.Name x px, iter, ifs, 0⟩] sc gpos] [] pos) (tT0 P ti) := by
  refine ⟨fun pins s σ H Q I h => ?_⟩
  refine wpAny_Call_Name_kw (ld_blt I hg hm PyProof.Rows.boot_tuple ?_)
  refine PyProof.Rows.callWith_type1 ?_ he (by rfl)
  rw [he]
  show wpAny _ _ (spliced ((false, eval (.GeneratorExp elt [⟨.Name x px, iter, ifs, 0⟩] sc gpos) X.env) :: backTo pos (starEach [] X.env))) _ _ s
  exact Calls.spliced_cons (gen0 hr TB hcode S hi hs I h fun g s5 z => Calls.spliced_nil z)
theorem pe_tup0T {c P : Addr} {elt iter : Expr} {ifs : List Expr} {x y : Str} {px py tpos gpos : Pos} {kt : Nat} {sc : Scope} {ti : TI0} {k : Nat} {p pos : Pos}
    (hr : Room k X.A) (TB : GxR.TabB X.base X.mg c P) (hcode : X.env.code = .ref c) (hg : Gl X "tuple") (hm : X.mg "tuple" = none) (S : GenZ X.env.scope sc x) (hy : sc.names.lookup y = some .local) (hxy : x ≠ y) (hi : P0T X iter ti) (hs : ∀ v, genFold iter X.env v = pure v := by intro _; rfl)
    (he : starEach [.GeneratorExp elt [⟨.Tuple [.Name x px, .Name y py] kt tpos, iter, ifs, 0⟩] sc gpos] X.env = (false, eval (.GeneratorExp elt [⟨.Tuple [.Name x px, .Name y py] kt tpos, iter, ifs, 0⟩] sc gpos) X.env) :: starEach [] X.env := by rfl) : PE X (.Call (.Name "tuple" p) [.GeneratorExp elt [⟨.Tuple [.Name x px, .Name y py] kt tpos, iter, ifs, 0⟩] sc gpos] [] pos) (tT0 P ti) := by
  refine ⟨fun pins s σ H Q I h => ?_⟩
  refine wpAny_Call_Name_kw (ld_blt I hg hm PyProof.Rows.boot_tuple ?_)
  refine PyProof.Rows.callWith_type1 ?_ he (by rfl)
  rw [he]
  show wpAny _ _ (spliced ((false, eval (.GeneratorExp elt [⟨.Tuple [.Name x px, .Name y py] kt tpos, iter, ifs, 0⟩] sc gpos) X.env) :: backTo pos (starEach [] X.env))) _ _ s
  exact Calls.spliced_cons (gen0T hr TB hcode S hy hxy hi hs I h fun g s5 z => Calls.spliced_nil z)
end
end L2G
end

section
set_option Elab.async false
set_option linter.all false
set_option maxRecDepth 100000
set_option maxHeartbeats 4000000
/-! The items of a locked dict of tuple keys. -/
namespace L2
open PySem PySem.Spec PyProof.Rows
section
variable {X : Cx} {pins : List (Addr × Obj)} {σ : St} {H : Hp} {s : Shared} {d : Addr} {o : Obj}
/-- what stands at each place of such a dict -/
theorem Inv.frzTV {kvs : List (List Key × V)} (I : Inv X pins σ H s) (h : H d = some (.frz o (.dT kvs))) :
    (d == sysModules) = false ∧ s.heap.get? d = some o ∧ o.ExactDict ∧ ∃ (es : Array DictEntry) (ep : Nat), o.data = .dict es ep ∧ es.size = kvs.length ∧
      ∀ (i : Nat) (k : List Key) (v : V), kvs[i]? = some (k, v) → ∃ (en : DictEntry) (q : Addr), es[i]? = some en ∧ en.key = .ref q ∧ RelV v en.val ∧ H q = some (.tup (k.map kV)) := by
  obtain ⟨hd, z, hs, xs, pr, o', es, ep, ho, hx, hdt, he, _⟩ := I.hok d _ h
  rw [hd] at ho
  cases ho
  refine ⟨hs, hd, hx, es, ep, hdt, ?_, fun i k v e => ?_⟩
  · have l1 : es.size = xs.length := size_of_entries he
    have l2 : kvs.length = xs.length := Paired.length pr
    omega
  · obtain ⟨b, hb, e1, e2, e3⟩ := paired_get pr e
    have q := entry_at he i
    rw [hb] at q
    exact ⟨_, b.2.1, q, rfl, e3, e2⟩
end
/-- the pairs, each a new tuple of the key's own tuple and what stands there -/
def ItiT (d : Addr) (o : Obj) (kvs : List (List Key × V)) : It :=
  ⟨fun i H => H d = some (.frz o (.dT kvs)) ∧ i < kvs.length, fun i H x H' => ∃ (T q : Addr) (k : List Key) (v : V), kvs[i]? = some (k, v) ∧ x = .ref T ∧ H T = none ∧ H q = some (.tup (k.map kV)) ∧ H' = upd H T (.tup [.ref q, v]),
    fun i H => H d = some (.frz o (.dT kvs)) ∧ kvs.length ≤ i⟩
theorem turn_itemsT {P : Program} {w : World} {K : PySem.W.Frag} {d : Addr} {o : Obj} {es : Array DictEntry} {ep : Nat} {kvs : List (List Key × V)} {elts : List Expr} {kk : Nat} {tpos : Pos} (it : Addr) (hod : o.data = .dict es ep) (hsz0 : es.size = kvs.length) :
    Turn P w K (.Tuple elts kk tpos) (ItiT d o kvs) [it] it (fun i h => ∃ ok ov, IsItemIter h it d i es.size ep ok ov) where
  mem := by simp
  obj := fun i h st b hb => by
    have e : b = it := by simpa using hb
    subst e
    obtain ⟨ok, ov, e⟩ := st
    exact ⟨_, e, fun v z => nomatch z⟩
  keep := fun i h h' st k => let ⟨ok, ov, e⟩ := st; ⟨ok, ov, k it (by simp) _ e⟩
  item := by
    intro X hP hw hK hc i pins s σ H E I hf st hg
    subst hP hw hK
    obtain ⟨hd, hi⟩ := hg
    obtain ⟨hs, hgd, hx, es', ep', hdt, hsz, ent⟩ := I.frzTV hd
    obtain ⟨rfl, rfl⟩ := dict_ep hod hdt
    obtain ⟨⟨k, v⟩, hkv⟩ : ∃ p, kvs[i]? = some p := ⟨kvs[i], List.getElem?_eq_getElem hi⟩
    obtain ⟨en, q, hen, hkey, rv, hq⟩ := ent i k v hkv
    obtain ⟨ok, ov, he⟩ := st
    have hlt : it < s.heap.objs.size := Heap.lt_size he
    have hie : i < es'.size := by rw [hsz]; exact hi
    have hen' : es'[i] = en := by
      have := Array.getElem?_eq_getElem hie
      rw [this] at hen
      exact Option.some.inj hen
    refine DT.nextI he (show DT.Raw s.heap d es' ep' from ⟨o, hgd, hx, hdt⟩) hie fun h' ho hT hz hk => ?_
    rw [hen'] at ho hT
    refine ⟨_, rfl, wpAny_letOwnedTupleGo_items (s := { s with heap := h' }) ho fun h'' he' sb => ?_⟩
    have hT2 : h''.get? s.heap.objs.size = some { cls := .type "tuple", data := .seq #[en.key, en.val] } := (sb.2 _ (Nat.ne_of_gt hlt)).trans hT
    have new : ObjOk X.prog X.w (upd H s.heap.objs.size (.tup [.ref q, v])) h'' s.heap.objs.size (.tup [.ref q, v]) :=
      ⟨by show 2 ≤ sizeLine; decide, [en.key, en.val], .cons hkey (.cons rv .nil), ⟨_, hT2, rfl, _, rfl⟩⟩
    have I1 : Inv X pins σ (upd H s.heap.objs.size (.tup [.ref q, v])) { s with heap := h'' } :=
      I.turnedNew (t' := s.toks) (ch := [it]) (fun b ob hb e => (sb.2 b (by simpa using hb)).trans (hk b ob (by simpa using hb) e)) hf (Nat.le_refl _) new
    refine ⟨.ref s.heap.objs.size, _, I1, rfl, ⟨_, q, k, v, hkv, rfl, I.hok.fresh (Nat.le_refl _), hq, rfl⟩, ⟨en.key, en.val, he'⟩, fun b hb => ?_⟩
    have e : b = it := by simpa using hb
    rw [e, upd_ne (Nat.ne_of_lt hlt)]
    exact (hf it (by simp)).1
  done := by
    intro X hP hw hK hc i pins s σ H E I hf st hg
    subst hP hw hK
    obtain ⟨hd, hi⟩ := hg
    obtain ⟨f0, f1, f2, f3, f4, f5⟩ := hf it (by simp)
    obtain ⟨hs, hgd, hx, es', ep', hdt, hsz, ent⟩ := I.frzTV hd
    obtain ⟨rfl, rfl⟩ := dict_ep hod hdt
    obtain ⟨ok, ov, he⟩ := st
    exact DT.endI (I.ok.hd hc) he (show DT.Raw s.heap d es' ep' from ⟨o, hgd, hx, hdt⟩) (by omega) fun h' eb => ⟨rfl, I.turned (t' := s.toks) (fun b ob hb e => eb b ob hb e) f0 f1 f3 f4 f5⟩
  self := fun A i s Q E st h => let ⟨_, _, e⟩ := st; PySem.W.kcp_self e h
def iItemsT (td : TE) : TI := fun σ H R => td σ H fun x H1 => ∃ d o kvs, x = .ref d ∧ H1 d = some (.frz o (.dT kvs)) ∧ R (ItiT d o kvs) H1
section
variable {X : Cx} {e : Expr} {td : TE} {apos cpos : Pos}
theorem pi_itemsT {elts : List Expr} {kk : Nat} {tpos : Pos} (he : PE X e td) (hbase : attributeBase e "items" X.env (eval e X.env) = eval e X.env := by rfl) (hline : (apos.endLine == cpos.line) = true := by rfl) :
    PI X (.Tuple elts kk tpos) (.Call (.Attribute e "items" apos) [] [] cpos) (iItemsT td) := by
  refine ⟨fun pins s σ H R I h => ?_⟩
  refine wpAny_Call_method (T := "dict") (id := "dict.items") hbase rfl hline F.plainAttrs_dict F.slot_dict_items F.type_dict_items (thn (he.run pins s σ H _ I h) fun u s1 ⟨x, H1, I1, rx, d, o, kvs, ex, hd, q⟩ => ?_)
  subst ex
  obtain rfl : u = Value.ref d := rx
  obtain ⟨hs, hgd, hx, es, ep, hdt, hsz, ent⟩ := I1.frzTV hd
  have raw : DT.Raw s1.heap d es ep := ⟨o, hgd, hx, hdt⟩
  refine ⟨raw.typeIs, fun b z => by cases z; exact ⟨o, hgd, hx.2.1⟩, ?_⟩
  have I2 : Inv X pins σ H1 { s1 with heap := s1.heap.push { cls := .type "dict_items", data := .fields #[.ref d] } } := I1.kept (t' := s1.toks) fun b ob q => Heap.get?_push_of_some _ q
  have fin : wpAny (model X.prog X.w) X.A (pyIter (.ref s1.heap.objs.size)) (PIE X pins σ (.Tuple elts kk tpos) R) X.xe { s1 with heap := s1.heap.push { cls := .type "dict_items", data := .fields #[.ref d] } } := by
    refine DT.iterI (es := es) (ep := ep) ⟨_, Heap.get?_push_size _ rfl, rfl, rfl⟩ (raw.push _) (pi_one (tk := s1.toks) I2 _ (turn_itemsT _ hdt hsz) ⟨.none, .none, ?_⟩ q)
    exact Heap.get?_push_size _ rfl
  show wpAny _ _ (callWith cpos (.builtin "dict.items") [.ref d] [] []) _ X.xe s1
  exact method_meetsIn F.slot_dict_items F.entry_dict_items rfl (PySem.evalArgs_none ⟨rfl, raw.typeIs, F.args_dict_items_1 _, _, DT.meetsItems hs, ⟨raw, fin⟩⟩)
end
end L2
end

section
set_option Elab.async false
set_option linter.all false
set_option maxRecDepth 100000
set_option maxHeartbeats 4000000
/-! The program of no parts: what its reading may change. -/
namespace K29
open PySem PySem.Spec PyProof.Rows L2 XT
section
variable {X : Cx}
theorem pss_nv {l : List Stmt} : PSs X l (fun _ _ _ => False) := ⟨fun _ _ _ _ _ _ h => h.elim⟩
theorem pe_nv {e : Expr} : PE X e (fun _ _ _ => False) := ⟨fun _ _ _ _ _ _ h => h.elim⟩
theorem pts_nv {l : List Expr} : PTs X l (fun _ _ _ => False) := ⟨fun _ _ _ _ _ _ h => h.elim⟩
theorem pg_nv {e : Expr} : PG X e (fun _ _ _ _ => False) := ⟨fun _ _ _ _ _ _ _ _ _ h => h.elim⟩
end
/-- no table -/
def NT (o : HO) : Prop := ∀ ps, o ≠ .tbl ps
/-- all but what stands at S, and but the tables, stands as it stood -/
structure Kx (K : PySem.W.Frag) (S : List Addr) (H H' : Hp) : Prop where
  at_ : ∀ b o, b ∉ S → H b = some o → NT o → H' b = some o
  tb : Tb K H → Tb K H'
  old : ∀ b, H b ≠ none → H' b ≠ none
theorem Kx.refl {K : PySem.W.Frag} {S : List Addr} {H : Hp} : Kx K S H H := ⟨fun _ _ _ e _ => e, fun t => t, fun _ e => e⟩
theorem Kx.fresh {K : PySem.W.Frag} {S : List Addr} {H H' : Hp} (k : Kx K S H H') {t : Addr} (h : H' t = none) : H t = none := by
  by_cases c : H t = none
  · exact c
  · exact absurd h (k.old t c)
theorem Kx.upd {K : PySem.W.Frag} {S : List Addr} {H H' : Hp} (k : Kx K S H H') {p : Addr} {o : HO} (hp : p ∈ S ∨ H p = none) (hn : H' p = none ∨ ∃ u, H' p = some u ∧ NT u) : Kx K S H (upd H' p o) := by
  refine ⟨fun b u hb e n => ?_, fun t P hP => ?_, fun b e => ?_⟩
  · refine (upd_ne fun z => ?_).trans (k.at_ b u hb e n)
    subst z
    rcases hp with z | z
    · exact hb z
    · rw [z] at e; cases e
  · obtain ⟨ps, h1, h2⟩ := k.tb t P hP
    refine ⟨ps, (upd_ne fun z => ?_).trans h1, h2⟩
    subst z
    rcases hn with z | ⟨u, z, nu⟩
    · rw [z] at h1; cases h1
    · rw [z] at h1; cases h1; exact nu _ rfl
  · by_cases z : b = p
    · subst z; rw [upd_same]; intro z; cases z
    · rw [upd_ne z]; exact k.old b e
theorem Kx.new {K : PySem.W.Frag} {S : List Addr} {H H' : Hp} (k : Kx K S H H') {p : Addr} {o : HO} (h : H' p = none) : Kx K S H (L2.upd H' p o) := k.upd (.inr (k.fresh h)) (.inl h)
theorem Kx.set {K : PySem.W.Frag} {S : List Addr} {H H' : Hp} (k : Kx K S H H') {p : Addr} {o u : HO} (hp : p ∈ S ∨ H p = none) (e : H' p = some u) (n : NT u) : Kx K S H (L2.upd H' p o) := k.upd hp (.inr ⟨u, e, n⟩)
theorem Kx.trans {K : PySem.W.Frag} {S S' : List Addr} {H H' H2 : Hp} (k : Kx K S H H') (k' : Kx K S' H' H2) (hs : ∀ b ∈ S', b ∈ S ∨ H b = none) : Kx K S H H2 :=
  ⟨fun b o hb e n => k'.at_ b o (fun z => (hs b z).elim hb fun z => by rw [z] at e; cases e) (k.at_ b o hb e n) n, fun t => k'.tb (k.tb t), fun b e => k'.old b (k.old b e)⟩
theorem Kx.then {K : PySem.W.Frag} {S : List Addr} {H H' H2 : Hp} (k : Kx K S H H') (k' : Kx K [] H' H2) : Kx K S H H2 := k.trans k' fun b z => nomatch z
theorem Kx.get {K : PySem.W.Frag} {S : List Addr} {H H' : Hp} (k : Kx K S H H') {b : Addr} {o : HO} (e : H b = some o) (hb : b ∉ S) (n : NT o) : H' b = some o := k.at_ b o hb e n
theorem ntT {xs : List V} : NT (.tup xs) := fun _ z => by cases z
theorem ntL {xs : List V} : NT (.lst xs) := fun _ z => by cases z
theorem ntI {C d : Addr} {xs : List (Str × V)} : NT (.ins C d xs) := fun _ z => by cases z
theorem ntK {xs : List (Key × V)} : NT (.dK xs) := fun _ z => by cases z
theorem ntD {xs : List (List Key × V)} : NT (.dT xs) := fun _ z => by cases z
theorem ntO {x : Addr} : NT (.own x) := fun _ z => by cases z
theorem Mut1 {P : Prop} (h : P) : P := h
/-! ### rules that hand on heaps by what they keep -/
section
variable {X : Cx}
def teM (t : TE) : TE := fun σ H Q => ∃ A : VK, t σ H A ∧ ∀ v H', A v H' → Q v H'
def taM (t : TA) : TA := fun σ H Q => ∃ A : List V → Hp → Prop, t σ H A ∧ ∀ v H', A v H' → Q v H'
def tsM (t : TS) : TS := fun D σ H => ∃ D0 : Ends, t D0 σ H ∧ (∀ σ' H', D0.nx σ' H' → D.nx σ' H') ∧ (∀ v H', D0.rt v H' → D.rt v H') ∧ (∀ σ' H', D0.bk σ' H' → D.bk σ' H') ∧ ∀ σ' H', D0.ct σ' H' → D.ct σ' H'
theorem peM {e : Expr} {t : TE} (h : PE X e t) : PE X e (teM t) := ⟨fun pins s σ H Q I ⟨A, a, k⟩ => thn (h.run pins s σ H A I a) fun u s' ⟨v, H', I', r, q⟩ => ⟨v, H', I', r, k _ _ q⟩⟩
theorem paM {es : List Expr} {t : TA} (h : PA X es t) : PA X es (taM t) := ⟨fun pos pins s σ H Q I ⟨A, a, k⟩ => thn (h.run pos pins s σ H A I a) fun u s' ⟨v, H', I', r, q⟩ => ⟨v, H', I', r, k _ _ q⟩⟩
theorem psM {st : Stmt} {t : TS} (h : PS X st t) : PS X st (tsM t) := ⟨fun pins s σ H D I ⟨D0, a, k1, k2, k3, k4⟩ => thn (h.run pins s σ H D0 I a) fun f s' q => by
  cases f with
  | next => exact let ⟨σ', H', I', z⟩ := q; ⟨σ', H', I', k1 _ _ z⟩
  | brk => exact let ⟨σ', H', I', z⟩ := q; ⟨σ', H', I', k3 _ _ z⟩
  | cont => exact let ⟨σ', H', I', z⟩ := q; ⟨σ', H', I', k4 _ _ z⟩
  | ret u => exact let ⟨v, σ', H', I', r, z⟩ := q; ⟨v, σ', H', I', r, k2 _ _ z⟩⟩
theorem pe_mono {e : Expr} {t t' : TE} (h : PE X e t) (m : ∀ σ H Q, t' σ H Q → t σ H Q) : PE X e t' := ⟨fun pins s σ H Q I q => h.run pins s σ H Q I (m _ _ _ q)⟩
theorem ps_mono {st : Stmt} {t t' : TS} (h : PS X st t) (m : ∀ D σ H, t' D σ H → t D σ H) : PS X st t' := ⟨fun pins s σ H D I q => h.run pins s σ H D I (m _ _ _ q)⟩
theorem cr_mono {f : Value} {r r' : List V → Hp → VK → Prop} (h : CallR X f r) (m : ∀ xs H Q, r' xs H Q → r xs H Q) : CallR X f r' := fun pins s σ H xs us Q I rx q => h pins s σ H xs us Q I rx (m _ _ _ q)
/-- something new, the object o, at p -/
def New (K : PySem.W.Frag) (H : Hp) (o : HO) (Q : Addr → Hp → Prop) : Prop := ∀ p H', Kx K [] H H' → H p = none → H' p = some o → Q p H'
theorem New.go {K : PySem.W.Frag} {H : Hp} {o : HO} {Q : Addr → Hp → Prop} (h : New K H o Q) {p : Addr} (hp : H p = none) : Q p (upd H p o) := h p _ (Kx.refl.new hp) hp upd_same
/-- the object at p is now o -/
def Now (K : PySem.W.Frag) (H : Hp) (p : Addr) (o : HO) (Q : Hp → Prop) : Prop := ∀ H', Kx K [p] H H' → H' p = some o → Q H'
theorem Now.go {K : PySem.W.Frag} {H : Hp} {p : Addr} {o u : HO} {Q : Hp → Prop} (h : Now K H p o Q) (hp : H p = some u) (n : NT u) : Q (upd H p o) := h _ (Kx.refl.set (.inl (by simp)) hp n) upd_same
def tTupA (K : PySem.W.Frag) (t : TA) : TE := fun σ H Q => t σ H fun xs H1 => xs.length ≤ 1000 ∧ New K H1 (.tup xs) fun p H' => Q (.ref p) H'
def tLstA (K : PySem.W.Frag) (t : TA) : TE := fun σ H Q => t σ H fun xs H1 => xs.length ≤ 1000 ∧ New K H1 (.lst xs) fun p H' => Q (.ref p) H'
theorem pe_tupA {es : List Expr} {t : TA} {x1 : Nat} {pos : Pos} (h : PA X es t) : PE X (.Tuple es x1 pos) (tTupA X.K t) := pe_mono (pe_tup (paM h)) fun σ H Q q => ⟨_, q, fun xs H1 ⟨l, n⟩ => ⟨szL rfl l, fun p hp => n.go hp⟩⟩
theorem pe_lstA {es : List Expr} {t : TA} {pos : Pos} (h : PA X es t) : PE X (.List es pos) (tLstA X.K t) := pe_mono (pe_lst (paM h)) fun σ H Q q => ⟨_, q, fun xs H1 ⟨l, n⟩ => ⟨szL rfl l, fun p hp => n.go hp⟩⟩
theorem pe_dKA {pos : Pos} : PE X (.Dict [] [] pos) (fun _ H Q => New X.K H (.dK []) fun p H' => Q (.ref p) H') := pe_mono pe_dnewK fun σ H Q q p hp => q.go hp
theorem pe_dTA {pos : Pos} : PE X (.Dict [] [] pos) (fun _ H Q => New X.K H (.dT []) fun p H' => Q (.ref p) H') := pe_mono pe_dnewT fun σ H Q q p hp => q.go hp
def sFldA (K : PySem.W.Frag) (ta tv : TE) (f : Str) : TS := fun D σ H => tv σ H fun y H1 => ta σ H1 fun x H2 => ∃ a C dx fs, x = .ref a ∧ H2 a = some (.ins C dx fs) ∧ Cls K C ∧ NoAttr K C f ∧ fs.length < 1000 ∧ Now K H2 a (.ins C dx (putF f y fs)) fun H' => D.nx σ H'
theorem ps_fldA {o value : Expr} {ta tv : TE} {f : Str} {pos pos' : Pos} (ha : PE X o ta) (hv : PE X value tv) (hs : swapsWith value (some (.Attribute o f pos')) pos.line X.env = pure false) : PS X (.Assign [.Attribute o f pos'] value pos) (sFldA X.K ta tv f) :=
  ps_mono (ps_fld (peM ha) (peM hv) hs) fun D σ H q => ⟨_, q, fun y H1 q1 => ⟨_, q1, fun x H2 ⟨a, C, dx, fs, e, h, c, n, l, z⟩ => ⟨a, C, dx, fs, e, h, c, n, l, z.go h ntI⟩⟩⟩
def sDPutA (K : PySem.W.Frag) (td ty tv : TE) : TS := fun D σ H => tv σ H fun v H1 => td σ H1 fun x H2 => ty σ H2 fun y H3 => ∃ (a : Addr) (kvs : List (List Key × V)) (k : List Key) (b : Addr), x = .ref a ∧ y = .ref b ∧ H3 a = some (.dT kvs) ∧ H3 b = some (.tup (k.map kV)) ∧ kvs.length < 1000 ∧ Now K H3 a (.dT (putK kvs k v)) fun H' => D.nx σ H'
theorem ps_dputA {o i value : Expr} {td ty tv : TE} {pos pos' : Pos} (hu : X.A.units + 1 < PySem.cLine) (ho : PE X o td) (hi : PE X i ty) (hv : PE X value tv) (hs : swapsWith value (some (.Subscript o i pos')) pos.line X.env = pure false) :
    PS X (.Assign [.Subscript o i pos'] value pos) (sDPutA X.K td ty tv) :=
  ps_mono (ps_dput hu (peM ho) (peM hi) (peM hv) hs) fun D σ H q => ⟨_, q, fun v H1 q1 => ⟨_, q1, fun x H2 q2 => ⟨_, q2, fun y H3 ⟨a, kvs, k, b, e1, e2, h1, h2, l, z⟩ => ⟨a, _, e1, by rw [e2]; exact DPut.t h1 h2 (by rw [sizeLine_eq]; omega), z.go h1 ntD⟩⟩⟩⟩
def tMakeA (K : PySem.W.Frag) (C : Addr) (sp : Sp) (E : XK) (t : TA) : TE := fun σ H Q => t σ H fun vs H1 => ∀ x dx H2, Kx K [] H1 H2 → H1 x = none → H2 x = some (.ins C dx []) → sp (.ref x :: vs) H2 (fun v H3 => v = .non ∧ Q (.ref x) H3) E
theorem make_go {K : PySem.W.Frag} {C : Addr} {sp : Sp} {E : XK} {t : TA} {σ : L2.St} {H : Hp} {Q : VK} (h : tMakeA K C sp E t σ H Q) : tMake C sp [] E (taM t) σ H Q := ⟨_, h, fun vs H1 q x dx hx hd ne => by
  rw [List.append_nil]
  exact q x dx _ ((Kx.refl.new hd).new (by rw [upd_ne (Ne.symm ne)]; exact hx)) hx upd_same⟩
def rPopA (K : PySem.W.Frag) : V → List V → Hp → VK → Prop := fun x vs H Q => ∃ l xs y, x = .ref l ∧ vs = [] ∧ H l = some (.lst xs) ∧ xs[xs.length - 1]? = some y ∧ Now K H l (.lst xs.dropLast) fun H' => Q y H'
theorem mt_popA : MtR X "list.pop" (rPopA X.K) := fun pins s σ H x xs v us Q I rx rv ⟨l, zs, y, e1, e2, h, hy, q⟩ => mt_pop pins s σ H x xs v us Q I rx rv ⟨l, zs, y, e1, e2, h, hy, q.go h ntL⟩
def rExtA (K : PySem.W.Frag) : V → V → Hp → VK → Prop := fun x y H Q => ∃ l b xs zs, x = .ref l ∧ y = .ref b ∧ H l = some (.lst xs) ∧ H b = some (.lst zs) ∧ xs.length + zs.length ≤ 1000 ∧ Now K H l (.lst (xs ++ zs)) fun H' => Q (.ref l) H'
theorem iop_extA : PIp X .Add (rExtA X.K) := fun pins s σ H x y v u Q I rx ry ⟨l, b, xs, zs, e1, e2, h1, h2, hz, q⟩ => iop_ext pins s σ H x y v u Q I rx ry ⟨l, b, xs, zs, e1, e2, h1, h2, by rw [sizeLine_eq]; omega, q.go h1 ntL⟩
def tRevA (K : PySem.W.Frag) (te : TE) : TE := fun σ H Q => te σ H fun x H1 => ∃ a xs, x = .ref a ∧ H1 a = some (.lst xs) ∧ New K H1 (.lst xs.reverse) fun p H' => Q (.ref p) H'
theorem pe_revA {e : Expr} {te : TE} {k : Nat} {p1 p2 p3 pos : Pos} (he : PE X e te) : PE X (.Subscript e (.Slice none none (some (.UnaryOp .USub (.Constant (.int 1) k p1) p2)) p3) pos) (tRevA X.K te) :=
  pe_mono (pe_revL (peM he)) fun σ H Q q => ⟨_, q, fun x H1 ⟨a, xs, e, h, z⟩ => ⟨a, xs, e, SqL.of h, fun p hp => z.go hp⟩⟩
/-- a comprehension over nothing -/
def tLcA (K : PySem.W.Frag) (wi : TI) : TE := fun σ H Q => wi σ H fun J H1 => New K H1 (.lst []) fun p H' => J.stop 0 H' ∧ Q (.ref p) H'
def rCatN (K : PySem.W.Frag) : R2 := fun x y H Q => ∃ a b, x = .ref a ∧ y = .ref b ∧ H a = some (.tup []) ∧ H b = some (.tup []) ∧ Q (.ref b) H
theorem op_catN : OpR X (binaryOp .Add) (rCatN X.K) := fun pins s σ H x y v u Q I rx ry ⟨a, b, e1, e2, h1, h2, q⟩ => op_catA pins s σ H x y v u Q I rx ry ⟨a, b, [], [], e1, e2, SqT.of h1, SqT.of h2, by simp, fun _ => q, fun z => absurd rfl z, fun z => absurd rfl z⟩
end

end K29
namespace K29
open PySem PySem.Spec PyProof.Rows L2 XT
theorem ntF {o : Obj} {u : HO} : NT (.frz o u) := fun _ z => by cases z
section
variable {X : Cx}
def tLockA (K : PySem.W.Frag) (t : TS) : TS := fun D σ H => ∃ d u, H d = some u ∧ Mut (some u) ∧ NT u ∧ ∀ od Hl, Kx K [d] H Hl → Hl d = some (.frz od u) → t ⟨fun σ' H' => H' d = some (.frz od u) ∧ Now K H' d u fun H2 => D.nx σ' H2, fun v H' => H' d = some (.frz od u) ∧ Now K H' d u fun H2 => D.rt v H2,
  fun σ' H' => H' d = some (.frz od u) ∧ Now K H' d u fun H2 => D.bk σ' H2, fun σ' H' => H' d = some (.frz od u) ∧ Now K H' d u fun H2 => D.ct σ' H2⟩ σ Hl
theorem ps_lockA {st : Stmt} {t : TS} (h : PS X st t) : PS X st (tLockA X.K t) := ps_mono (ps_lock (psM h)) fun D σ H ⟨d, u, h1, m, n, q⟩ =>
  ⟨d, u, h1, m, fun od => ⟨_, q od _ (Kx.refl.set (.inl (by simp)) h1 n) upd_same, fun _ _ ⟨e, z⟩ => ⟨e, z.go e ntF⟩, fun _ _ ⟨e, z⟩ => ⟨e, z.go e ntF⟩, fun _ _ ⟨e, z⟩ => ⟨e, z.go e ntF⟩, fun _ _ ⟨e, z⟩ => ⟨e, z.go e ntF⟩⟩⟩
def tLockEA (K : PySem.W.Frag) (t : TE) : TE := fun σ H Q => ∃ d u, H d = some u ∧ Mut (some u) ∧ NT u ∧ ∀ od Hl, Kx K [d] H Hl → Hl d = some (.frz od u) → t σ Hl fun v H' => H' d = some (.frz od u) ∧ Now K H' d u fun H2 => Q v H2
theorem pe_lockA {e : Expr} {t : TE} (h : PE X e t) : PE X e (tLockEA X.K t) := pe_mono (pe_lock (peM h)) fun σ H Q ⟨d, u, h1, m, n, q⟩ =>
  ⟨d, u, h1, m, fun od => ⟨_, q od _ (Kx.refl.set (.inl (by simp)) h1 n) upd_same, fun _ _ ⟨e, z⟩ => ⟨e, z.go e ntF⟩⟩⟩
end
/-- a comprehension over nothing ends at once -/
theorem lcN {K : PySem.W.Frag} {J : It} {F : Addr → Hp → Prop} {Z : Addr → Nat → Nat → Hp → (Hp → Prop) → V → Hp → Prop} {H1 : Hp} (h : New K H1 (.lst []) fun p H' => J.stop 0 H' ∧ F p H') : ∀ D, H1 D = none → ∃ W : Nat → Nat → Hp → Prop, (∃ m, W 0 m (upd H1 D (.lst []))) ∧ ∀ i m H, W i m H →
    (J.stop i H ∧ F D H) ∨ (J.go i H ∧ ∃ Nx : Hp → Prop, (∀ H', Nx H' → ∃ m', m' < m ∧ W (i + 1) m' H') ∧ ∀ x H', J.yld i H x H' → Z D i m H Nx x H') := fun D hD =>
  ⟨fun i m H' => i = 0 ∧ H' = upd H1 D (.lst []), ⟨0, rfl, rfl⟩, fun i m H' ⟨a, b⟩ => by subst a b; exact .inl (h.go hD)⟩
end K29
namespace K29
open PySem PySem.Spec PyProof.Rows L2 XT
/-- a for over nothing ends at once -/
theorem forN {J : It} {F : L2.St → Hp → Prop} {Z : Nat → Nat → L2.St → Hp → (L2.St → Hp → Prop) → V → Hp → Prop} {σ : L2.St} {H : Hp} (h1 : J.stop 0 H) (h2 : F σ H) : ∃ W : Nat → Nat → L2.St → Hp → Prop, (∃ m, W 0 m σ H) ∧ ∀ i m σ H, W i m σ H →
    (J.stop i H ∧ F σ H) ∨ (J.go i H ∧ ∃ N : L2.St → Hp → Prop, (∀ σ' H', N σ' H' → ∃ m', m' < m ∧ W (i + 1) m' σ' H') ∧ ∀ x H', J.yld i H x H' → Z i m σ H N x H') :=
  ⟨fun i m σ' H' => i = 0 ∧ σ' = σ ∧ H' = H, ⟨0, rfl, rfl, rfl⟩, fun i m σ' H' ⟨a, b, c⟩ => by subst a b c; exact .inl ⟨h1, h2⟩⟩
end K29
end

section
set_option Elab.async false
set_option linter.all false
set_option maxRecDepth 100000
set_option maxHeartbeats 4000000
/-! The program of no parts: its names. -/
namespace L2
theorem Room.u1 {k : Nat} {A : PySem.Around} (h : Room k A) : A.units + 1 < PySem.cLine := by
  have := h.un
  omega
end L2
namespace K29
open PySem PySem.Spec PyProof.Rows L2 XT
/-! ### an object of class Stand -/
def spInitC (K : PySem.W.Frag) (C : Addr) (n : Nat) : Sp := fun vs H Q _ => ∃ (p dx : Addr) (us : List V), vs = .ref p :: us ∧ us.length = n ∧ H p = some (.ins C dx []) ∧ ∀ H' fs, Kx K [p] H H' → H' p = some (.ins C dx fs) → Q .non H'
theorem putF_len (f : Str) (y : V) (fs : List (Str × V)) (n : Nat) (h : fs.length < n) : (putF f y fs).length < n + 1 := by
  have := length_putF f y fs
  omega
section
variable {w : World} {K : PySem.W.Frag} {mg : Str → Option Value} {base : Heap}
theorem ok_standInit (T : Txt K mg) : FnOk Pg w K mg base CX0 1 (aStandInit K) (fdStandInit K) PStandInit (spInitC K (He.ga K "Stand") 4) := by
  refine (fStandInit T).ok0 scStandInit (fun vs H Q E h => ?_) (fun cdv A outer s H vs Q E hr h => ?_)
  · obtain ⟨p, dx, us, rfl, hl, _⟩ := h
    show us.length + 1 = 5
    rw [hl]
  · obtain ⟨p, dx, us, rfl, hl, hp0, k⟩ := h
    obtain ⟨a, b, c, d, rfl⟩ : ∃ a b c d, us = [a, b, c, d] := by
      match us, hl with
      | [a, b, c, d], _ => exact ⟨a, b, c, d, rfl⟩
    refine ⟨_, pss_cons (ps_fldA (pv 0) (pv 1) rfl) (pss_cons (ps_fldA (pv 0) (pv 2) rfl) (pss_cons (ps_fldA (pv 0) (pv 3) rfl) (pss_one (ps_fldA (pv 0) (pv 4) rfl)))), ?_⟩
    refine ⟨_, rfl, _, rfl, p, _, dx, _, rfl, hp0, clStand T, naStand_names T, by show 0 < 1000; decide, fun H1 k1 h1 => ?_⟩
    refine ⟨_, rfl, _, rfl, p, _, dx, _, rfl, h1, clStand T, naStand_place T, Nat.lt_trans (putF_len _ _ _ 1 (by decide)) (by decide), fun H2 k2 h2 => ?_⟩
    refine ⟨_, rfl, _, rfl, p, _, dx, _, rfl, h2, clStand T, naStand_limit T, Nat.lt_trans (putF_len _ _ _ 2 (putF_len _ _ _ 1 (by decide))) (by decide), fun H3 k3 h3 => ?_⟩
    refine ⟨_, rfl, _, rfl, p, _, dx, _, rfl, h3, clStand T, naStand_givens T, Nat.lt_trans (putF_len _ _ _ 3 (putF_len _ _ _ 2 (putF_len _ _ _ 1 (by decide)))) (by decide), fun H4 k4 h4 => ?_⟩
    exact k _ _ (((k1.trans k2 fun b z => .inl z).trans k3 fun b z => .inl z).trans k4 fun b z => .inl z) h4
end
/-! ### the names of the program of no parts -/
abbrev cN (K : PySem.W.Frag) : Addr := He.ga K "Names"
/-- the program as a maker -/
def MakV (H : Hp) (m : Addr) : Prop := ∃ e v p : Addr, H m = some (.tup [.str "make", .str "program", .ref e, .ref v, .ref p]) ∧ H e = some (.tup []) ∧ H v = some (.tup []) ∧ H p = some (.tup [])
theorem MakV.keep {K : PySem.W.Frag} {S : List Addr} {H H' : Hp} {m : Addr} (h : MakV H m) (k : Kx K S H H') (hS : ∀ b ∈ S, ∀ xs, H b ≠ some (.tup xs)) : MakV H' m :=
  let ⟨e, v, p, h1, h2, h3, h4⟩ := h
  ⟨e, v, p, k.get h1 (fun z => hS _ z _ h1) ntT, k.get h2 (fun z => hS _ z _ h2) ntT, k.get h3 (fun z => hS _ z _ h3) ntT, k.get h4 (fun z => hS _ z _ h4) ntT⟩
abbrev nf (kd od md ad rd sd : Addr) : List (Str × V) := [("kinds", .ref kd), ("owners", .ref od), ("makers", .ref md), ("acts", .ref ad), ("rooms", .ref rd), ("seats", .ref sd)]
def NamesV (K : PySem.W.Frag) (H : Hp) (n : Addr) : Prop := ∃ (dx kd od md ad rd sd m : Addr), H n = some (.ins (cN K) dx (nf kd od md ad rd sd)) ∧ H md = some (.dT [([], .ref m)]) ∧ MakV H m ∧ H ad = some (.dK [])
theorem NamesV.keep {K : PySem.W.Frag} {S : List Addr} {H H' : Hp} {n : Addr} (h : NamesV K H n) (k : Kx K S H H') (hS : ∀ b ∈ S, b ≠ n ∧ (∀ xs, H b ≠ some (.tup xs)) ∧ (∀ xs, H b ≠ some (.dT xs)) ∧ ∀ xs, H b ≠ some (.dK xs)) : NamesV K H' n :=
  let ⟨dx, kd, od, md, ad, rd, sd, m, h1, h2, h3, h4⟩ := h
  ⟨dx, kd, od, md, ad, rd, sd, m, k.get h1 (fun z => (hS _ z).1 rfl) ntI, k.get h2 (fun z => (hS _ z).2.2.1 _ h2) ntD, h3.keep k fun b hb => (hS b hb).2.1, k.get h4 (fun z => (hS _ z).2.2.2 _ h4) ntK⟩
theorem NamesV.keep0 {K : PySem.W.Frag} {H H' : Hp} {n : Addr} (h : NamesV K H n) (k : Kx K [] H H') : NamesV K H' n := h.keep k fun b z => nomatch z
/-- _parts of no parts -/
def spParts (K : PySem.W.Frag) : Sp := fun vs H Q _ => ∃ (n pl ps dx kd od md ad rd sd : Addr), vs = [.ref n, .ref pl, .ref ps] ∧ H n = some (.ins (cN K) dx (nf kd od md ad rd sd)) ∧ H pl = some (.tup []) ∧ H ps = some (.tup []) ∧ H sd = some (.dT []) ∧
  ∀ r H', Kx K [sd] H H' → H' r = some (.lst []) → H r = none → Q (.ref r) H'
theorem nfl1 (kd od md ad rd sd : Addr) : List.lookup ("makers" : Str) (nf kd od md ad rd sd) = some (.ref md) := by simp [List.lookup, show (("makers" : Str) == "kinds") = false by decide +kernel, show (("makers" : Str) == "owners") = false by decide +kernel]
theorem nfl2 (kd od md ad rd sd : Addr) : List.lookup ("acts" : Str) (nf kd od md ad rd sd) = some (.ref ad) := by
  simp [List.lookup, show (("acts" : Str) == "kinds") = false by decide +kernel, show (("acts" : Str) == "owners") = false by decide +kernel, show (("acts" : Str) == "makers") = false by decide +kernel]
theorem nfl3 (kd od md ad rd sd : Addr) : List.lookup ("seats" : Str) (nf kd od md ad rd sd) = some (.ref sd) := by
  simp [List.lookup, show (("seats" : Str) == "kinds") = false by decide +kernel, show (("seats" : Str) == "owners") = false by decide +kernel, show (("seats" : Str) == "makers") = false by decide +kernel, show (("seats" : Str) == "acts") = false by decide +kernel, show (("seats" : Str) == "rooms") = false by decide +kernel]
theorem nfl4 (kd od md ad rd sd : Addr) : List.lookup ("rooms" : Str) (nf kd od md ad rd sd) = some (.ref rd) := by
  simp [List.lookup, show (("rooms" : Str) == "kinds") = false by decide +kernel, show (("rooms" : Str) == "owners") = false by decide +kernel, show (("rooms" : Str) == "makers") = false by decide +kernel, show (("rooms" : Str) == "acts") = false by decide +kernel]
section
variable {w : World} {K : PySem.W.Frag} {mg : Str → Option Value} {base : Heap}
theorem ok_parts (T : Txt K mg) : FnOk Pg w K mg base CX0 2 (aNamesParts K) (fdNamesParts K) PNamesParts (spParts K) := by
  refine (fNamesParts T).ok0 scNamesParts (fun vs H Q E h => ?_) (fun cdv A outer s H vs Q E hr h => ?_)
  · obtain ⟨_, _, _, _, _, _, _, _, _, _, rfl, _⟩ := h
    rfl
  · obtain ⟨n, pl, ps, dx, kd, od, md, ad, rd, sd, rfl, hn, hpl, hps, hsd, k⟩ := h
    refine ⟨_, pss_cons (ps_set (i := 3) scNamesParts.nd rfl (Or.inl rfl) pe_dKA)
      (pss_cons (ps_set (i := 4) scNamesParts.nd rfl (Or.inr rfl) pe_dKA)
      (pss_cons (ps_for PassesOwn.never rfl (pi_enum0 (by rfl) (nEnumerate T) (pa_cons (pv 2) pa_nil)) pg_nv pss_nv)
      (pss_cons (ps_dputA hr.u1 (pe_fld (pv 0) rfl) (pv 1) (pv 3) rfl)
      (pss_one (ps_ret (pe_lockA (pe_lc (own := [("name", 7)]) (by rfl) scNamesParts.nd (pi_keys (pv 4)) (blkOk_by (N := NNamesParts) (sc := defScope sNamesParts) (by decide +kernel)) (fun _ _ _ _ _ => pg_nv) (fun _ _ _ _ _ => pts_nv) (fun _ _ _ _ _ => pe_nv)))))))), ?_⟩
    refine fun x H1 k1 x0 hx => ?_
    refine fun y H2 k2 y0 hy => ?_
    have k02 := k1.then k2
    refine ⟨_, rfl, _, rfl, SqT.of (k02.get hps (by simp) ntT), forN (J := Ite0 K ps) (SqT.of (k02.get hps (by simp) ntT)) ?_⟩
    refine ⟨_, rfl, _, rfl, n, _, dx, _, _, rfl, k02.get hn (by simp) ntI, clNames T, naNames_seats T, nfl3 .., ?_⟩
    have k02' := k02.get hsd (by simp) ntD
    have nx : x ≠ sd := fun z => by rw [z, hsd] at x0; cases x0
    have ny : y ≠ sd := fun z => by
      rw [z, k1.get hsd (by simp) ntD] at y0; cases y0
    refine ⟨_, rfl, sd, [], [], pl, rfl, rfl, k02', k02.get hpl (by simp) ntT, by decide, fun H3 k3 h3 => ?_⟩
    have hy3 := k3.get hy (by simpa using ny) ntK
    refine ⟨y, _, hy3, trivial, ntK, fun od H4 k4 h4 => ?_⟩
    refine ⟨_, rfl, y, od, rfl, .inl ⟨[], h4, ?_⟩⟩
    refine lcN (K := K) (J := Itk y od []) fun r H5 k5 r0 hr5 => ⟨⟨k5.get h4 (by simp) ntF, by decide⟩, k5.get h4 (by simp) ntF, fun H6 k6 h6 => ?_⟩
    have hr6 : r ≠ y := fun z => by rw [z, h4] at r0; cases r0
    have k01 : Kx K [sd] H H2 := Kx.refl.then k02
    have k03 := k01.trans k3 fun b z => .inl z
    have hH4 := k03.trans k4 (S := [sd]) fun b z => .inr (by
      rw [List.mem_singleton.mp z]
      exact k1.fresh y0)
    have k05 := hH4.then k5
    refine k r _ (k05.trans k6 fun b z => .inr (by
      rw [List.mem_singleton.mp z]
      exact k1.fresh y0)) (k6.get hr5 (by simpa using hr6) ntL) (hH4.fresh r0)
end
end K29
end

section
set_option Elab.async false
set_option linter.all false
set_option maxRecDepth 100000
set_option maxHeartbeats 4000000
/-! The program of no parts: its names are made. -/
namespace K29
open PySem PySem.Spec PyProof.Rows L2 XT
theorem nf_made (kd od md ad rd sd : Addr) : putF "seats" (.ref sd) (putF "rooms" (.ref rd) (putF "acts" (.ref ad) (putF "makers" (.ref md) (putF "owners" (.ref od) (putF "kinds" (.ref kd) []))))) = nf kd od md ad rd sd := by kernel_rfl
theorem nf_parts (kd od md ad rd sd : Addr) : (nf kd od md ad rd sd).lookup ("_parts" : Str) = none := by kernel_rfl
theorem nf_path (kd od md ad rd sd : Addr) : (nf kd od md ad rd sd).lookup ("path_of" : Str) = none := by kernel_rfl
theorem plen (f : Str) (y : V) (fs : List (Str × V)) {n : Nat} (h : fs.length ≤ n) : (putF f y fs).length ≤ n + 1 := by
  have := length_putF f y fs
  omega
def spNames (K : PySem.W.Frag) : Sp := fun vs H Q _ => ∃ (n dx : Addr) (v : V), vs = [.ref n, v] ∧ H n = some (.ins (cN K) dx []) ∧ ProgV H v ∧ ∀ H', Kx K [n] H H' → NamesV K H' n → Q .non H'
section
variable {w : World} {K : PySem.W.Frag} {mg : Str → Option Value} {base : Heap}
theorem ok_names (T : Txt K mg) : FnOk Pg w K mg base CX0 3 (aNamesInit K) (fdNamesInit K) PNamesInit (spNames K) := by
  refine (fNamesInit T).ok0 scNamesInit (fun vs H Q E h => ?_) (fun cdv A outer s H vs Q E hr h => ?_)
  · obtain ⟨_, _, _, rfl, _⟩ := h
    rfl
  · obtain ⟨n, dx, v, rfl, hn, ⟨p, a, b, c, rfl, hp, ha, hb, hc⟩, k⟩ := h
    refine ⟨_, pss_cons (ps_fldA (pv 0) (pe_disp (pps_cons pe_str (pe_tupA (pa_cons pe_str (pa_cons pe_str pa_nil))) pps_nil) rfl rfl (fun z => nomatch z) (by decide)) rfl)
      (pss_cons (ps_fldA (pv 0) (pe_disp (pps_cons pe_str pe_str (pps_cons pe_str pe_str pps_nil)) rfl rfl (fun z => nomatch z) (by decide)) rfl)
      (pss_cons (ps_for PassesOwn.never rfl (pi_tup (pe_ix ix_tup (pv 1) pe_int (fun _ _ => rfl))) pg_nv pss_nv)
      (pss_cons (ps_fldA (pv 0) pe_dTA rfl)
      (pss_cons (ps_fldA (pv 0) pe_dKA rfl)
      (pss_cons (ps_fldA (pv 0) pe_dTA rfl)
      (pss_cons (ps_fldA (pv 0) pe_dTA rfl)
      (pss_cons (ps_set (i := 2) scNamesInit.nd rfl (Or.inl rfl) (pe_lstA (pa_cons (pe_tupA (pa_cons (pe_tupA pa_nil) (pa_cons (pe_tupA (pa_cons pe_str (pa_cons pe_str (pa_cons (pe_tupA pa_nil) (pa_cons (pe_ix ix_tup (pv 1) pe_int (fun _ _ => rfl)) (pa_cons (pe_ix ix_tup (pv 1) pe_int (fun _ _ => rfl)) pa_nil)))))) pa_nil))) pa_nil)))
      (pss_one (ps_while PassesOwn.never (pt_truth (pv 2) (fun _ => rfl))
        (pss_cons (ps_asg (pe_bm0 PySem.F.plainAttrs_list PySem.F.slot_list_pop PySem.F.type_list_pop mt_popA (pv 2)) (pg_tup rfl (pgs_cons (pg_name (i := 7) scNamesInit.nd rfl (Or.inl rfl)) (pgs_cons (pg_name (i := 8) scNamesInit.nd rfl (Or.inl rfl)) pgs_nil))))
        (pss_cons (ps_dputA hr.u1 (pe_fld (pv 0) rfl) (pv 7) (pv 8) rfl)
        (pss_cons (ps_set (i := 6) scNamesInit.nd rfl (Or.inl rfl) pe_dKA)
        (pss_cons (ps_for PassesOwn.never rfl (pi_enum0 (by rfl) (nEnumerate T) (pa_cons (pe_op op_catN (pe_ix ix_tup (pv 8) pe_int (fun _ _ => rfl)) (pe_ix ix_tup (pv 8) pe_int (fun _ _ => rfl))) pa_nil)) pg_nv pss_nv)
        (pss_cons (ps_dputA hr.u1 (pe_fld (pv 0) rfl) (pv 7) (pv 6) rfl)
        (pss_one (ps_aug (i := 2) scNamesInit.nd rfl (Or.inl rfl) (pe_revA (pe_meth (pv 0) (clNames T) (meNames__parts T) (ok_parts T) hr (bNamesParts T) .nil pass0 (pa_cons (pv 7) (pa_cons (pe_ix ix_tup (pv 8) pe_int (fun _ _ => rfl)) pa_nil)))) iop_extA)))))))))))))))), ?_⟩
    refine fun d1 hd1 => ?_
    refine ⟨by decide, fun t1 H1 k1 t0 ht1 => ?_⟩
    have np : p ∉ [n] := fun z => by rw [List.mem_singleton.mp z, hn] at hp; cases hp
    have na : a ∉ [n] := fun z => by rw [List.mem_singleton.mp z, hn] at ha; cases ha
    have nb : b ∉ [n] := fun z => by rw [List.mem_singleton.mp z, hn] at hb; cases hb
    have nc : c ∉ [n] := fun z => by rw [List.mem_singleton.mp z, hn] at hc; cases hc
    have nd1 : n ≠ d1 := ne_of_none hn hd1
    refine ⟨k1.get upd_same (by simp) ntK, [(Sum.inr _, .ref t1)], rfl, Nat.le_of_ble_eq_true rfl, ?_⟩
    refine ⟨_, rfl, n, _, dx, _, rfl, (upd_ne nd1).trans (k1.get ((upd_ne nd1).trans hn) (by simp) ntI), clNames T, naNames_kinds T, by decide, fun H2 k2 h2 => ?_⟩
    have q2 : Kx K [n] H H2 := Kx.trans (((Kx.refl.new hd1).then k1).set (.inr hd1) (k1.get upd_same (by simp) ntK) ntK) k2 (fun b z => .inl z)
    refine fun d2 hd2 => ?_
    have nd2 : n ≠ d2 := ne_of_none h2 hd2
    refine ⟨upd_same, [(Sum.inr _, .str _), (Sum.inr _, .str _)], rfl, by decide, ?_⟩
    refine ⟨_, rfl, n, _, dx, _, rfl, (upd_ne nd2).trans ((upd_ne nd2).trans h2), clNames T, naNames_owners T, Nat.lt_of_le_of_lt (plen _ _ _ (Nat.le_refl 0)) (by decide), fun H3 k3 h3 => ?_⟩
    have q3 : Kx K [n] H H3 := (q2.trans ((Kx.refl (S := [n])).new hd2) (fun b z => .inl z) |>.set (.inr (q2.fresh hd2)) upd_same ntK).trans k3 (fun b z => .inl z)
    refine ⟨_, rfl, p, _, _, _, rfl, rfl, SqT.of (q3.get hp np ntT), rfl, a, rfl, ⟨[], SqT.of (q3.get ha na ntT)⟩, forN (J := Itt K a) ⟨[], SqT.of (q3.get ha na ntT), Nat.le_refl 0⟩ ?_⟩
    refine fun md H4 k4 md0 hmd => ?_
    refine ⟨_, rfl, n, _, dx, _, rfl, k4.get h3 (by simp) ntI, clNames T, naNames_makers T, Nat.lt_of_le_of_lt (plen _ _ _ (plen _ _ _ (Nat.le_refl 0))) (by decide), fun H5 k5 h5 => ?_⟩
    have q5 : Kx K [n] H H5 := (q3.then k4).trans k5 (fun b z => .inl z)
    have nmd : n ≠ md := ne_of_none h3 md0
    have hmd5 := k5.get hmd (by simpa using Ne.symm nmd) ntD
    refine fun ad H6 k6 ad0 had => ?_
    refine ⟨_, rfl, n, _, dx, _, rfl, k6.get h5 (by simp) ntI, clNames T, naNames_acts T, Nat.lt_of_le_of_lt (plen _ _ _ (plen _ _ _ (plen _ _ _ (Nat.le_refl 0)))) (by decide), fun H7 k7 h7 => ?_⟩
    have q7 : Kx K [n] H H7 := (q5.then k6).trans k7 (fun b z => .inl z)
    have nad : n ≠ ad := ne_of_none h5 ad0
    have had7 := k7.get had (by simpa using Ne.symm nad) ntK
    have hmd7 := k7.get (k6.get hmd5 (by simp) ntD) (by simpa using Ne.symm nmd) ntD
    refine fun rd H8 k8 rd0 hrd => ?_
    refine ⟨_, rfl, n, _, dx, _, rfl, k8.get h7 (by simp) ntI, clNames T, naNames_rooms T, Nat.lt_of_le_of_lt (plen _ _ _ (plen _ _ _ (plen _ _ _ (plen _ _ _ (Nat.le_refl 0))))) (by decide), fun H9 k9 h9 => ?_⟩
    have q9 : Kx K [n] H H9 := (q7.then k8).trans k9 (fun b z => .inl z)
    have nrd : n ≠ rd := ne_of_none h7 rd0
    have hrd9 := k9.get hrd (by simpa using Ne.symm nrd) ntD
    have had9 := k9.get (k8.get had7 (by simp) ntK) (by simpa using Ne.symm nad) ntK
    have hmd9 := k9.get (k8.get hmd7 (by simp) ntD) (by simpa using Ne.symm nmd) ntD
    refine fun sd H10 k10 sd0 hsd => ?_
    refine ⟨_, rfl, n, _, dx, _, rfl, k10.get h9 (by simp) ntI, clNames T, naNames_seats T, Nat.lt_of_le_of_lt (plen _ _ _ (plen _ _ _ (plen _ _ _ (plen _ _ _ (plen _ _ _ (Nat.le_refl 0)))))) (by decide), fun H11 k11 h11 => ?_⟩
    have q11 : Kx K [n] H H11 := (q9.then k10).trans k11 (fun b z => .inl z)
    have nsd : n ≠ sd := ne_of_none h9 sd0
    have hsd11 := k11.get hsd (by simpa using Ne.symm nsd) ntD
    have hrd11 := k11.get (k10.get hrd9 (by simp) ntD) (by simpa using Ne.symm nrd) ntD
    have had11 := k11.get (k10.get had9 (by simp) ntK) (by simpa using Ne.symm nad) ntK
    have hmd11 := k11.get (k10.get hmd9 (by simp) ntD) (by simpa using Ne.symm nmd) ntD
    rw [nf_made] at h11
    -- four dicts of their own
    have rs : rd ≠ sd := ne_of_none hrd9 sd0
    have ms : md ≠ sd := ne_of_none hmd9 sd0
    have mr : md ≠ rd := ne_of_none hmd7 rd0
    have as' : ad ≠ sd := ne_of_none had9 sd0
    have ar : ad ≠ rd := ne_of_none had7 rd0
    have am : ad ≠ md := Ne.symm (ne_of_none hmd5 ad0)
    have fmd : H md = none := q3.fresh md0
    have frd : H rd = none := q7.fresh rd0
    have fsd : H sd = none := q9.fresh sd0
    clear h2 h3 h5 h7 h9 hmd5 hmd7 hmd9 had7 had9 hrd9 k1 k2 k3 k4 k5 k6 k7 k8 k9 k10 k11 q2 q3 q5 q7 q9 hmd had hrd hsd md0 ad0 rd0 sd0 t0 ht1
    refine ⟨by decide, fun e0 H12 k12 e00 he0 => ?_⟩
    refine ⟨by decide, fun e1 H13 k13 e10 he1 => ?_⟩
    have q13 := (q11.then k12).then k13
    refine ⟨_, rfl, p, _, _, _, rfl, rfl, SqT.of (q13.get hp np ntT), rfl, _, rfl, p, _, _, _, rfl, rfl, SqT.of (q13.get hp np ntT), rfl, Nat.le_of_ble_eq_true rfl, fun mk H14 k14 mk0 hmk => ?_⟩
    refine ⟨Nat.le_of_ble_eq_true rfl, fun tp H15 k15 tp0 htp => ?_⟩
    refine ⟨Nat.le_of_ble_eq_true rfl, fun lf H16 k16 lf0 hlf => ?_⟩
    have kk : Kx K [] H11 H16 := (((k12.then k13).then k14).then k15).then k16
    have q16 := q11.then kk
    have h16 := kk.get h11 (by simp) ntI
    have hmd16 := kk.get hmd11 (by simp) ntD
    have had16 := kk.get had11 (by simp) ntK
    have hrd16 := kk.get hrd11 (by simp) ntD
    have hsd16 := kk.get hsd11 (by simp) ntD
    have he016 := k16.get (k15.get (k14.get (k13.get he0 (by simp) ntT) (by simp) ntT) (by simp) ntT) (by simp) ntT
    have he116 := k16.get (k15.get (k14.get he1 (by simp) ntT) (by simp) ntT) (by simp) ntT
    have hmk16 := k16.get (k15.get hmk (by simp) ntT) (by simp) ntT
    have htp16 := k16.get htp (by simp) ntT
    have nlm : md ≠ lf := ne_of_none (k15.get (k14.get (k13.get (k12.get hmd11 (by simp) ntD) (by simp) ntD) (by simp) ntD) (by simp) ntD) lf0
    have nlr : rd ≠ lf := ne_of_none (k15.get (k14.get (k13.get (k12.get hrd11 (by simp) ntD) (by simp) ntD) (by simp) ntD) (by simp) ntD) lf0
    have nls : sd ≠ lf := ne_of_none (k15.get (k14.get (k13.get (k12.get hsd11 (by simp) ntD) (by simp) ntD) (by simp) ntD) (by simp) ntD) lf0
    have nla : ad ≠ lf := ne_of_none (k15.get (k14.get (k13.get (k12.get had11 (by simp) ntK) (by simp) ntK) (by simp) ntK) (by simp) ntK) lf0
    have nln : n ≠ lf := ne_of_none (k15.get (k14.get (k13.get (k12.get h11 (by simp) ntI) (by simp) ntI) (by simp) ntI) (by simp) ntI) lf0
    have flf : H lf = none := ((((q11.then k12).then k13).then k14).then k15).fresh lf0
    clear h11 hmd11 had11 hrd11 hsd11 kk k12 k13 k14 k15 k16 q11 q13 he0 he1 hmk htp e00 e10 mk0 tp0 lf0
    refine ⟨fun m σ H' => (m = 1 ∧ σ = (L2.start NNamesInit [V.ref n, V.ref p]).set 2 (some (.ref lf)) ∧ H16 = H') ∨ (m = 0 ∧ Kx K [n] H H' ∧ NamesV K H' n ∧ σ[2]? = some (some (.ref lf)) ∧ H' lf = some (.lst [])), ⟨1, .inl ⟨rfl, rfl, rfl⟩⟩, ?_⟩
    rintro m σ H' (⟨rfl, rfl, rfl⟩ | ⟨rfl, qf, nv, e2, hlf'⟩)
    · refine ⟨_, rfl, true, .inl ⟨_, SqL.of hlf, rfl⟩, iteT ⟨fun σ H' => Kx K [n] H H' ∧ NamesV K H' n ∧ σ[2]? = some (some (.ref lf)) ∧ H' lf = some (.lst []), fun σ' H2 f => ⟨0, by decide, .inr ⟨rfl, f⟩⟩, ?_⟩⟩
      have tS : ∀ {x : Addr} {xs : List V}, H16 x = some (.tup xs) → x ∉ [lf, md, rd, sd] := by
        intro x xs hx z
        simp only [List.mem_cons, List.not_mem_nil, or_false] at z
        rcases z with z | z | z | z
        · rw [z, hlf] at hx; cases hx
        · rw [z, hmd16] at hx; cases hx
        · rw [z, hrd16] at hx; cases hx
        · rw [z, hsd16] at hx; cases hx
      have nS : n ∉ [lf, md, rd, sd] := by simp [nln, nmd, nrd, nsd]
      have aS : ad ∉ [lf, md, rd, sd] := by simp [nla, am, ar, as']
      have hb16 := q16.get hb nb ntT
      have hc16 := q16.get hc nc ntT
      have inS : ∀ {x : Addr}, x ∈ [lf, md, rd, sd] → ∀ y ∈ [x], y ∈ [lf, md, rd, sd] ∨ H16 y = none := fun hx y hy => .inl (by rw [List.mem_singleton.mp hy]; exact hx)
      refine ⟨_, rfl, .inl ⟨rfl, _, SqL.of hlf⟩, lf, _, _, rfl, rfl, hlf, rfl, fun H17 k17 h17 => ?_⟩
      have q17 : Kx K [lf, md, rd, sd] H16 H17 := Kx.refl.trans k17 (inS (by simp))
      refine ⟨tp, _, rfl, SqT.of (q17.get htp16 (tS htp16) ntT), rfl, _, _, rfl, _, _, rfl, rfl, ?_⟩
      refine ⟨_, rfl, _, rfl, n, _, dx, _, _, rfl, q17.get h16 nS ntI, clNames T, naNames_makers T, nfl1 .., _, rfl, md, [], [], e0, rfl, rfl, k17.get hmd16 (by simpa using nlm) ntD, q17.get he016 (tS he016) ntT, by decide, fun H18 k18 h18 => ?_⟩
      have q18 : Kx K [lf, md, rd, sd] H16 H18 := q17.trans k18 (inS (by simp))
      refine fun rm H19 k19 rm0 hrm => ?_
      have q19 := q18.then k19
      refine ⟨_, rfl, mk, _, _, _, rfl, rfl, SqT.of (q19.get hmk16 (tS hmk16) ntT), rfl, _, rfl, mk, _, _, _, rfl, rfl, SqT.of (q19.get hmk16 (tS hmk16) ntT), rfl, e1, b, rfl, rfl, q19.get he116 (tS he116) ntT, q19.get hb16 (tS hb16) ntT, b, rfl, SqT.of (q19.get hb16 (tS hb16) ntT), forN (J := Ite0 K b) (SqT.of (q19.get hb16 (tS hb16) ntT)) ?_⟩
      refine ⟨_, rfl, _, rfl, n, _, dx, _, _, rfl, q19.get h16 nS ntI, clNames T, naNames_rooms T, nfl4 .., _, rfl, rd, [], [], e0, rfl, rfl, k19.get (k18.get (k17.get hrd16 (by simpa using nlr) ntD) (by simpa using Ne.symm mr) ntD) (by simp) ntD, q19.get he016 (tS he016) ntT, by decide, fun H20 k20 h20 => ?_⟩
      have q20 : Kx K [lf, md, rd, sd] H16 H20 := q19.trans k20 (inS (by simp))
      have hsd20 := k20.get (k19.get (k18.get (k17.get hsd16 (by simpa using nls) ntD) (by simpa using Ne.symm ms) ntD) (by simp) ntD) (by simpa using Ne.symm rs) ntD
      refine ⟨_, rfl, _, rfl, n, dx, _, rfl, q20.get h16 nS ntI, nf_parts .., _, rfl, _, rfl, mk, _, _, _, rfl, rfl, SqT.of (q20.get hmk16 (tS hmk16) ntT), rfl, n, e0, c, dx, _, _, md, ad, rd, sd, rfl, q20.get h16 nS ntI, q20.get he016 (tS he016) ntT, q20.get hc16 (tS hc16) ntT, hsd20, fun r H21 k21 hr21 r0 => ?_⟩
      have q21 : Kx K [lf, md, rd, sd] H16 H21 := q20.trans k21 (inS (by simp))
      refine ⟨r, _, rfl, hr21, fun rr H22 k22 rr0 hrr => ?_⟩
      have q22 := q21.then k22
      have hlf22 := k22.get (k21.get (k20.get (k19.get (k18.get h17 (by simpa using Ne.symm nlm) ntL) (by simp) ntL) (by simpa using Ne.symm nlr) ntL) (by simpa using Ne.symm nls) ntL) (by simp) ntL
      refine ⟨lf, rr, [], [], rfl, rfl, hlf22, hrr, by decide, fun H23 k23 h23 => ?_⟩
      have q23 : Kx K [lf, md, rd, sd] H16 H23 := q22.trans k23 (inS (by simp))
      refine ⟨q16.trans q23 fun y z => .inr ?_, ⟨dx, _, _, md, ad, rd, sd, mk, q23.get h16 nS ntI, ?_, ⟨e1, b, c, q23.get hmk16 (tS hmk16) ntT, q23.get he116 (tS he116) ntT, q23.get hb16 (tS hb16) ntT, q23.get hc16 (tS hc16) ntT⟩, q23.get had16 aS ntK⟩, rfl, h23⟩
      · simp only [List.mem_cons, List.not_mem_nil, or_false] at z
        rcases z with z | z | z | z <;> (rw [z]; assumption)
      · exact k23.get (k22.get (k21.get (k20.get (k19.get h18 (by simp) ntD) (by simpa using mr) ntD) (by simpa using ms) ntD) (by simp) ntD) (by simpa using nlm) ntD
    · refine ⟨_, e2, false, .inl ⟨_, SqL.of hlf', rfl⟩, iteF ?_⟩
      exact k _ qf nv
end
end K29
end

section
set_option Elab.async false
set_option linter.all false
set_option maxRecDepth 100000
set_option maxHeartbeats 4000000
/-! The program of no parts: path_of, its maker, its layout. -/
namespace L2
open PySem PySem.Spec PyProof.Rows
/-- THE RULE for a def whose code object is named -/
theorem FunD.okC {P : Program} {w : World} {K : PySem.W.Frag} {mg : Str → Option Value} {base : Heap} {x qual : Str} {params : Arguments} {body : List Stmt} {scope : Scope} {dvs : List V} {kws : List (Str × V)} {q : Str × Option Str} {fd : FuncData} {CX : CXT} {N ps : List Str} {k : Nat} {sp : Sp}
    (F : FunD K x qual params body scope dvs kws (He.fAd K q) fd) (S : FnScope N ps scope) (len : ∀ vs H Q E, sp vs H Q E → vs.length = ps.length)
    (hbody : ∀ (A : PySem.Around) (outer : List Env) (s : Shared) (H : Hp) (vs : List V) (Q : VK) (E : XK), Room k (A.deeper (envOfC qual scope s.heap.objs.size (He.fAd K q) (.ref (He.cT K q).1))) → sp vs H Q E →
      ∃ t, PSs (cxOf CX P w K mg base N qual scope (He.fAd K q) (.ref (He.cT K q).1) A outer s H E) body t ∧ t { nx := fun _ H' => Q .non H', rt := Q } (start N vs) H) : FnOk P w K mg base CX (k + 1) (He.fAd K q) fd ps sp := by
  obtain ⟨oc, od, dV, kV, doc, pm, an, cdv, ct, osl, rfl, lk, hcd, _, _⟩ := F.ex
  obtain ⟨c, rfl⟩ := He.codeIn_ref hcd
  have e : He.codeOf K q = c := He.codeOf_eq lk rfl
  refine fn_of lk hcd S len fun A outer s H vs Q E hr hsp => ?_
  have := hbody A outer s H vs Q E
  rw [show (He.cT K q).1 = c from e] at this
  exact this hr hsp
end L2
namespace K29
open PySem PySem.Spec PyProof.Rows L2 XT L2G
section
variable {X : Cx}
def tiM (t : TI0) : TI0 := fun σ H R => ∃ A : Hp → Prop, t σ H A ∧ ∀ H', A H' → R H'
theorem p0M {iter : Expr} {t : TI0} (h : P0 X iter t) : P0 X iter (tiM t) := ⟨fun pins s σ H R I ⟨A, a, k⟩ => thn (h.run pins s σ H A I a) fun xv s1 z => thn z fun it s2 ⟨Ia, fp, wr, S0, sB, H1, h2, t2, e1, e2, I1, r, z⟩ => ⟨Ia, fp, wr, S0, sB, H1, h2, t2, e1, e2, I1, k _ r, z⟩⟩
theorem p0TM {iter : Expr} {t : TI0} (h : P0T X iter t) : P0T X iter (tiM t) := ⟨fun pins s σ H R I ⟨A, a, k⟩ => thn (h.run pins s σ H A I a) fun xv s1 z => thn z fun it s2 ⟨Ia, fp, wr, S0, sB, H1, h2, t2, e1, e2, I1, r, z⟩ => ⟨Ia, fp, wr, S0, sB, H1, h2, t2, e1, e2, I1, k _ r, z⟩⟩
theorem kx_tab {K : PySem.W.Frag} {P : Addr} {H1 H2 : Hp} {ps : Array Value} (h1 : H1 P = some (.tbl ps)) (h2 : ∃ ps' : Array Value, H2 P = some (.tbl ps') ∧ TriplesOk ps'.toList) (h : ∀ b, b ≠ P → H2 b = H1 b) : Kx K [] H1 H2 :=
  ⟨fun b o _ e n => by rw [h b fun z => by rw [z, h1] at e; cases e; exact n _ rfl]; exact e, fun tb P' hP' => by
    by_cases z : P' = P
    · rw [z]; exact h2
    · rw [h P' z]; exact tb P' hP', fun b e => by
    by_cases z : b = P
    · rw [z]; obtain ⟨ps', a, _⟩ := h2; rw [a]; intro y; cases y
    · rw [h b z]; exact e⟩
def tT0A (K : PySem.W.Frag) (ti : TI0) : TE := fun σ H Q => ti σ H fun H1 => Tb K H1 ∧ New K H1 (.tup []) fun p H' => Q (.ref p) H'
theorem t0A {P : Addr} {K : PySem.W.Frag} {ti : TI0} (hP : P ∈ tabs K) (σ : L2.St) (H : Hp) (Q : VK) (q : tT0A K ti σ H Q) : tT0 P (tiM ti) σ H Q := ⟨_, q, fun H1 ⟨tb, n⟩ => let ⟨ps, h1, h2⟩ := tb P hP
  ⟨ps, h1, h2, fun H2 t hx hb ht => n t _ ((kx_tab h1 hx hb).new ht) ((kx_tab (K := K) h1 hx hb).fresh ht) upd_same⟩⟩
end
/-- the two defs' code objects and tables -/
structure Cd (K : PySem.W.Frag) (mg : Str → Option Value) (base : Heap) : Prop where
  path : GxR.TabB base mg (He.cT K ("Names", some "path_of")).1 (He.cT K ("Names", some "path_of")).2
  maker : GxR.TabB base mg (He.cT K ("Maker", some "__init__")).1 (He.cT K ("Maker", some "__init__")).2
theorem tabs1 (K : PySem.W.Frag) : (He.cT K ("Names", some "path_of")).2 ∈ tabs K := List.mem_cons_self
theorem tabs2 (K : PySem.W.Frag) : (He.cT K ("Maker", some "__init__")).2 ∈ tabs K := List.mem_cons_of_mem _ List.mem_cons_self
def spPath (K : PySem.W.Frag) : Sp := fun vs H Q _ => ∃ (v : V) (pl : Addr), vs = [v, .ref pl] ∧ H pl = some (.tup []) ∧ Tb K H ∧ New K H (.tup []) fun p H' => Q (.ref p) H'
section
variable {w : World} {K : PySem.W.Frag} {mg : Str → Option Value} {base : Heap}
theorem ok_path (T : Txt K mg) (C : Cd K mg base) : FnOk Pg w K mg base CX0 1 (aNamesPathOf K) (fdNamesPathOf K) PNamesPathOf (spPath K) := by
  refine FunD.okC (q := ("Names", some "path_of")) (fNamesPathOf T) scNamesPathOf (fun vs H Q E h => ?_) (fun A outer s H vs Q E hr h => ?_)
  · obtain ⟨_, _, rfl, _⟩ := h
    rfl
  · obtain ⟨v, pl, rfl, hpl, tb, k⟩ := h
    refine ⟨_, pss_one (ps_ret (pe_mono (pe_tup0 hr C.path rfl (by rfl) (nTuple T) (genZ_by (s0 := defScope sNamesPathOf) (by decide +kernel)) (p0M (p0_rng (by rfl) (nRange T) (pa_cons (pe_callB call_len_seq (by rfl) (nLen T) PySem.boot_len (pa_cons (pv 1) pa_nil)) pa_nil)))) (t0A (K := K) (tabs1 K)))), ?_⟩
    refine ⟨_, rfl, pl, [], rfl, .inr (SqT.of hpl), rfl, tb, k⟩
end
/-! ### the maker of the program of no parts -/
abbrev cM (K : PySem.W.Frag) : Addr := He.ga K "Maker"
abbrev mf (pl pa va ki : Addr) (n : Int) (fi ac inn : Addr) : List (Str × V) := [("place", .ref pl), ("path", .ref pa), ("variables", .ref va), ("kinds", .ref ki), ("many", .int n), ("firsts", .ref fi), ("acts", .ref ac), ("inner", .ref inn)]
theorem mf_made (pl pa va ki : Addr) (n : Int) (fi ac inn : Addr) : putF "inner" (.ref inn) (putF "acts" (.ref ac) (putF "firsts" (.ref fi) (putF "many" (.int n) (putF "kinds" (.ref ki) (putF "variables" (.ref va) (putF "path" (.ref pa) (putF "place" (.ref pl) []))))))) = mf pl pa va ki n fi ac inn := by kernel_rfl
theorem mf_path (pl pa va ki : Addr) (n : Int) (fi ac inn : Addr) : (mf pl pa va ki n fi ac inn).lookup ("path" : Str) = some (.ref pa) := by kernel_rfl
theorem mf_firsts (pl pa va ki : Addr) (n : Int) (fi ac inn : Addr) : (mf pl pa va ki n fi ac inn).lookup ("firsts" : Str) = some (.ref fi) := by kernel_rfl
theorem mf_acts (pl pa va ki : Addr) (n : Int) (fi ac inn : Addr) : (mf pl pa va ki n fi ac inn).lookup ("acts" : Str) = some (.ref ac) := by kernel_rfl
def MkV (K : PySem.W.Frag) (H : Hp) (m : Addr) : Prop := ∃ (dx pl pa va ki : Addr) (n : Int) (fi ac inn : Addr), H m = some (.ins (cM K) dx (mf pl pa va ki n fi ac inn)) ∧ H pa = some (.tup []) ∧ H fi = some (.tup []) ∧ H ac = some (.tup [])
theorem MkV.keep {K : PySem.W.Frag} {S : List Addr} {H H' : Hp} {m : Addr} (h : MkV K H m) (k : Kx K S H H') (hS : ∀ b ∈ S, b ≠ m ∧ ∀ xs, H b ≠ some (.tup xs)) : MkV K H' m :=
  let ⟨dx, pl, pa, va, ki, n, fi, ac, inn, h1, h2, h3, h4⟩ := h
  ⟨dx, pl, pa, va, ki, n, fi, ac, inn, k.get h1 (fun z => (hS _ z).1 rfl) ntI, k.get h2 (fun z => (hS _ z).2 _ h2) ntT, k.get h3 (fun z => (hS _ z).2 _ h3) ntT, k.get h4 (fun z => (hS _ z).2 _ h4) ntT⟩
/-- the names while their dict of makers may be locked -/
def NamesR (K : PySem.W.Frag) (H : Hp) (n : Addr) : Prop := ∃ (dx kd od md ad rd sd m : Addr), H n = some (.ins (cN K) dx (nf kd od md ad rd sd)) ∧ Rd H md (.dT [([], .ref m)]) ∧ MakV H m
def spMaker (K : PySem.W.Frag) : Sp := fun vs H Q _ => ∃ (m n pl dx : Addr), vs = [.ref m, .ref n, .ref pl] ∧ H m = some (.ins (cM K) dx []) ∧ NamesR K H n ∧ H pl = some (.tup []) ∧ Tb K H ∧ ∀ H', Kx K [m] H H' → MkV K H' m → Q .non H'
/-- a for that goes round once -/
theorem forOne {J : It} {F : L2.St → Hp → Prop} {Z : Nat → Nat → L2.St → Hp → (L2.St → Hp → Prop) → V → Hp → Prop} {σ : L2.St} {H : Hp} (Fin : L2.St → Hp → Prop) (h1 : J.go 0 H) (h2 : ∀ x H', J.yld 0 H x H' → Z 0 1 σ H Fin x H') (h3 : ∀ σ' H', Fin σ' H' → J.stop 1 H' ∧ F σ' H') :
    ∃ W : Nat → Nat → L2.St → Hp → Prop, (∃ m, W 0 m σ H) ∧ ∀ i m σ H, W i m σ H →
    (J.stop i H ∧ F σ H) ∨ (J.go i H ∧ ∃ N : L2.St → Hp → Prop, (∀ σ' H', N σ' H' → ∃ m', m' < m ∧ W (i + 1) m' σ' H') ∧ ∀ x H', J.yld i H x H' → Z i m σ H N x H') :=
  ⟨fun i m σ' H' => (i = 0 ∧ m = 1 ∧ σ = σ' ∧ H = H') ∨ (i = 1 ∧ m = 0 ∧ Fin σ' H'), ⟨1, .inl ⟨rfl, rfl, rfl, rfl⟩⟩, fun i m σ' H' h => by
    rcases h with ⟨rfl, rfl, rfl, rfl⟩ | ⟨rfl, rfl, f⟩
    · exact .inr ⟨h1, Fin, fun σ' H' f => ⟨0, by decide, .inr ⟨rfl, rfl, f⟩⟩, h2⟩
    · exact .inl (h3 _ _ f)⟩
section
variable {w : World} {K : PySem.W.Frag} {mg : Str → Option Value} {base : Heap}
theorem ok_maker (T : Txt K mg) (C : Cd K mg base) : FnOk Pg w K mg base CX0 2 (aMakerInit K) (fdMakerInit K) PMakerInit (spMaker K) := by
  refine FunD.okC (q := ("Maker", some "__init__")) (fMakerInit T) scMakerInit (fun vs H Q E h => ?_) (fun A outer s H vs Q E hr h => ?_)
  · obtain ⟨_, _, _, _, rfl, _⟩ := h
    rfl
  · obtain ⟨m, n, pl, dx, rfl, hm, nv, hpl, tb, k⟩ := h
    refine ⟨_, pss_cons (ps_set (i := 3) scMakerInit.nd rfl (Or.inl rfl) (pe_dget hr.u1 (pe_fld (pv 1) rfl) (pv 2) (fun _ _ => rfl)))
      (pss_cons (ps_set (i := 4) scMakerInit.nd rfl (Or.inl rfl) (pe_op op_catN (pe_ix ix_tup (pv 3) pe_int (fun _ _ => rfl)) (pe_ix ix_tup (pv 3) pe_int (fun _ _ => rfl))))
      (pss_cons (ps_fldA (pv 0) (pv 2) rfl)
      (pss_cons (ps_fldA (pv 0) (pe_meth (pv 1) (clNames T) (meNames_path_of T) (ok_path T C) hr (bNamesPathOf T) .nil pass0 (pa_cons (pv 2) pa_nil)) rfl)
      (pss_cons (ps_fldA (pv 0) (pe_mono (pe_tup0 hr C.maker rfl (by rfl) (nTuple T) (genZ_by (s0 := defScope sMakerInit) (by decide +kernel)) (p0M (p0_tup (pv 4)))) (t0A (K := K) (tabs2 K))) rfl)
      (pss_cons (ps_fldA (pv 0) (pe_mono (pe_tup0 hr C.maker rfl (by rfl) (nTuple T) (genZ_by (s0 := defScope sMakerInit) (by decide +kernel)) (p0M (p0_tup (pv 4)))) (t0A (K := K) (tabs2 K))) rfl)
      (pss_cons (ps_fldA (pv 0) (pe_callB call_len_seq (by rfl) (nLen T) PySem.boot_len (pa_cons (pe_ix ix_tup (pv 3) pe_int (fun _ _ => rfl)) pa_nil)) rfl)
      (pss_cons (ps_fldA (pv 0) (pe_mono (pe_tup0T hr C.maker rfl (by rfl) (nTuple T) (genZ_by (s0 := defScope sMakerInit) (by decide +kernel)) rfl (by decide +kernel) (p0TM (p0_enum (by rfl) (nEnumerate T) (pa_cons (pe_ix ix_tup (pv 3) pe_int (fun _ _ => rfl)) pa_nil)))) (t0A (K := K) (tabs2 K))) rfl)
      (pss_cons (ps_fldA (pv 0) (pe_mono (pe_tup0T hr C.maker rfl (by rfl) (nTuple T) (genZ_by (s0 := defScope sMakerInit) (by decide +kernel)) rfl (by decide +kernel) (p0TM (p0_enum (by rfl) (nEnumerate T) (pa_cons (pe_ix ix_tup (pv 3) pe_int (fun _ _ => rfl)) pa_nil)))) (t0A (K := K) (tabs2 K))) rfl)
      (pss_one (ps_fldA (pv 0) (pe_mono (pe_tup0 hr C.maker rfl (by rfl) (nTuple T) (genZ_by (s0 := defScope sMakerInit) (by decide +kernel)) (p0M (p0_tup (pe_ix ix_tup (pv 3) pe_int (fun _ _ => rfl))))) (t0A (K := K) (tabs2 K))) rfl)))))))))), ?_⟩
    obtain ⟨dn, kd, od, md, ad, rd, sd, mk, hn, hmd, e, v, p, hmk, he, hv, hp⟩ := nv
    have nm : n ∉ [m] := fun z => by
      rw [List.mem_singleton.mp z] at hn
      have := Option.some.inj (hm.symm.trans hn)
      injection this with _ _ h
      cases h
    have tS : ∀ {x : Addr} {xs : List V}, H x = some (.tup xs) → x ∉ [m] := fun hx z => by
      rw [List.mem_singleton.mp z, hm] at hx; cases hx
    refine ⟨_, rfl, n, _, dn, _, _, rfl, hn, clNames T, naNames_makers T, nfl1 .., _, rfl, md, .ref mk, rfl, .inr ⟨_, [], pl, hmd, rfl, hpl, rfl⟩, ?_⟩
    refine ⟨_, rfl, mk, _, _, _, rfl, rfl, SqT.of hmk, rfl, _, rfl, mk, _, _, _, rfl, rfl, SqT.of hmk, rfl, e, v, rfl, rfl, he, hv, ?_⟩
    refine ⟨_, rfl, _, rfl, m, _, dx, _, rfl, hm, clMaker T, naMaker_place T, by decide, fun H1 k1 h1 => ?_⟩
    have up : ∀ {A B : Hp}, Kx K [m] A B → ∀ b ∈ [m], b ∈ [m] ∨ H b = none := fun _ b z => .inl z
    refine ⟨_, rfl, n, dn, _, rfl, k1.get hn nm ntI, nf_path .., _, rfl, _, pl, rfl, k1.get hpl (tS hpl) ntT, k1.tb tb, fun pa H2 k2 pa0 hpa => ?_⟩
    refine ⟨_, rfl, m, _, dx, _, rfl, k2.get h1 (by simp) ntI, clMaker T, naMaker_path T, Nat.lt_of_le_of_lt (plen _ _ _ (Nat.le_refl 0)) (by decide), fun H3 k3 h3 => ?_⟩
    have q3 : Kx K [m] H H3 := (k1.then k2).trans k3 fun b z => .inl z
    have npa : pa ∉ [m] := by simpa using Ne.symm (ne_of_none h1 pa0)
    have hpa3 := k3.get hpa npa ntT
    refine ⟨_, rfl, v, rfl, SqT.of (q3.get hv (tS hv) ntT), q3.tb tb, fun va H4 k4 va0 hva => ?_⟩
    refine ⟨_, rfl, m, _, dx, _, rfl, k4.get h3 (by simp) ntI, clMaker T, naMaker_variables T, Nat.lt_of_le_of_lt (plen _ _ _ (plen _ _ _ (Nat.le_refl 0))) (by decide), fun H5 k5 h5 => ?_⟩
    have q5 : Kx K [m] H H5 := (q3.then k4).trans k5 fun b z => .inl z
    have hpa5 := k5.get (k4.get hpa3 (by simp) ntT) npa ntT
    refine ⟨_, rfl, v, rfl, SqT.of (q5.get hv (tS hv) ntT), q5.tb tb, fun ki H6 k6 ki0 hki => ?_⟩
    refine ⟨_, rfl, m, _, dx, _, rfl, k6.get h5 (by simp) ntI, clMaker T, naMaker_kinds T, Nat.lt_of_le_of_lt (plen _ _ _ (plen _ _ _ (plen _ _ _ (Nat.le_refl 0)))) (by decide), fun H7 k7 h7 => ?_⟩
    have q7 : Kx K [m] H H7 := (q5.then k6).trans k7 fun b z => .inl z
    have hpa7 := k7.get (k6.get hpa5 (by simp) ntT) npa ntT
    refine ⟨_, rfl, mk, _, _, _, rfl, rfl, SqT.of (q7.get hmk (tS hmk) ntT), rfl, e, [], rfl, .inr (SqT.of (q7.get he (tS he) ntT)), ?_⟩
    refine ⟨_, rfl, m, _, dx, _, rfl, h7, clMaker T, naMaker_many T, Nat.lt_of_le_of_lt (plen _ _ _ (plen _ _ _ (plen _ _ _ (plen _ _ _ (Nat.le_refl 0))))) (by decide), fun H8 k8 h8 => ?_⟩
    have q8 : Kx K [m] H H8 := q7.trans k8 fun b z => .inl z
    have hpa8 := k8.get hpa7 npa ntT
    refine ⟨_, rfl, mk, _, _, _, rfl, rfl, SqT.of (q8.get hmk (tS hmk) ntT), rfl, v, rfl, SqT.of (q8.get hv (tS hv) ntT), q8.tb tb, fun fi H9 k9 fi0 hfi => ?_⟩
    refine ⟨_, rfl, m, _, dx, _, rfl, k9.get h8 (by simp) ntI, clMaker T, naMaker_firsts T, Nat.lt_of_le_of_lt (plen _ _ _ (plen _ _ _ (plen _ _ _ (plen _ _ _ (plen _ _ _ (Nat.le_refl 0)))))) (by decide), fun H10 k10 h10 => ?_⟩
    have q10 : Kx K [m] H H10 := (q8.then k9).trans k10 fun b z => .inl z
    have nfi : fi ∉ [m] := by simpa using Ne.symm (ne_of_none h8 fi0)
    have hpa10 := k10.get (k9.get hpa8 (by simp) ntT) npa ntT
    have hfi10 := k10.get hfi nfi ntT
    refine ⟨_, rfl, mk, _, _, _, rfl, rfl, SqT.of (q10.get hmk (tS hmk) ntT), rfl, p, rfl, SqT.of (q10.get hp (tS hp) ntT), q10.tb tb, fun ac H11 k11 ac0 hac => ?_⟩
    refine ⟨_, rfl, m, _, dx, _, rfl, k11.get h10 (by simp) ntI, clMaker T, naMaker_acts T, Nat.lt_of_le_of_lt (plen _ _ _ (plen _ _ _ (plen _ _ _ (plen _ _ _ (plen _ _ _ (plen _ _ _ (Nat.le_refl 0))))))) (by decide), fun H12 k12 h12 => ?_⟩
    have q12 : Kx K [m] H H12 := (q10.then k11).trans k12 fun b z => .inl z
    have nac : ac ∉ [m] := by simpa using Ne.symm (ne_of_none h10 ac0)
    have hpa12 := k12.get (k11.get hpa10 (by simp) ntT) npa ntT
    have hfi12 := k12.get (k11.get hfi10 (by simp) ntT) nfi ntT
    have hac12 := k12.get hac nac ntT
    refine ⟨_, rfl, mk, _, _, _, rfl, rfl, SqT.of (q12.get hmk (tS hmk) ntT), rfl, p, rfl, SqT.of (q12.get hp (tS hp) ntT), q12.tb tb, fun inn H13 k13 inn0 hinn => ?_⟩
    refine ⟨_, rfl, m, _, dx, _, rfl, k13.get h12 (by simp) ntI, clMaker T, naMaker_inner T, Nat.lt_of_le_of_lt (plen _ _ _ (plen _ _ _ (plen _ _ _ (plen _ _ _ (plen _ _ _ (plen _ _ _ (plen _ _ _ (Nat.le_refl 0)))))))) (by decide), fun H14 k14 h14 => ?_⟩
    have q14 : Kx K [m] H H14 := (q12.then k13).trans k14 fun b z => .inl z
    rw [mf_made] at h14
    exact k _ q14 ⟨dx, pl, pa, va, ki, _, fi, ac, inn, h14, k14.get (k13.get hpa12 (by simp) ntT) npa ntT, k14.get (k13.get hfi12 (by simp) ntT) nfi ntT, k14.get (k13.get hac12 (by simp) ntT) nac ntT⟩
theorem Kx.drop {K : PySem.W.Frag} {x : Addr} {S : List Addr} {H H' : Hp} (k : Kx K (x :: S) H H') (e : ∀ o, H x = some o → H' x = some o) : Kx K S H H' :=
  ⟨fun b o hb eb n => by
    by_cases z : b = x
    · rw [z]; rw [z] at eb; exact e _ eb
    · exact k.at_ b o (by simp [z, hb]) eb n, k.tb, k.old⟩
/-- the plan of the program of no parts -/
def PlanV (K : PySem.W.Frag) (H : Hp) (p : Addr) : Prop := ∃ m, H p = some (.dT [([], .ref m)]) ∧ MkV K H m
def spLayout (K : PySem.W.Frag) : Sp := fun vs H Q _ => ∃ v, vs = [v] ∧ ProgV H v ∧ Tb K H ∧ ∀ H' p, Kx K [] H H' → PlanV K H' p → Q (.ref p) H'
theorem ProgV.keep {K : PySem.W.Frag} {S : List Addr} {H H' : Hp} {v : V} (h : ProgV H v) (k : Kx K S H H') (hS : ∀ b ∈ S, ∀ xs, H b ≠ some (.tup xs)) : ProgV H' v :=
  let ⟨p, a, b, c, e, h1, h2, h3, h4⟩ := h
  ⟨p, a, b, c, e, k.get h1 (fun z => hS _ z _ h1) ntT, k.get h2 (fun z => hS _ z _ h2) ntT, k.get h3 (fun z => hS _ z _ h3) ntT, k.get h4 (fun z => hS _ z _ h4) ntT⟩
theorem ProgV.keep0 {K : PySem.W.Frag} {H H' : Hp} {v : V} (h : ProgV H v) (k : Kx K [] H H') : ProgV H' v := h.keep k fun b z => nomatch z
theorem pe_makeA {X : Cx} {C f : Addr} {fd : FuncData} {ps : List Str} {sp : Sp} {k : Nat} {CX : CXT} {E : XK} {x : Str} {p pos : Pos} {e : Expr} {es : List Expr} {t : TA} (M : Mk X.K C f) (F : FnOk X.prog X.w X.K X.mg X.base CX k f fd ps sp) (hr : Room (k + 1) X.A) (hg : Gl X x) (hm : X.mg x = some (.ref C)) (hb : Binds X.K fd ps []) (hx : Passes CX X E)
    (ha : PA X (e :: es) t) (hdb : (x == ("__debug__" : Str)) = false := by decide) (he : starEach (e :: es) X.env = (false, eval e X.env) :: starEach es X.env := by rfl) (hpl : (backTo pos (starEach es X.env)).any (·.1) = false := by rfl) : PE X (.Call (.Name x p) (e :: es) [] pos) (tMakeA X.K C sp E t) :=
  pe_mono (pe_make M F hr hg hm hb .nil hx (paM ha) hdb he hpl) fun σ H Q q => make_go q
theorem ok_layout (T : Txt K mg) (C : Cd K mg base) : FnOk Pg w K mg base CX0 5 (aLayout K) (fdLayout K) PLayout (spLayout K) := by
  refine (fLayout T).ok0 scLayout (fun vs H Q E h => ?_) (fun cdv A outer s H vs Q E hr h => ?_)
  · obtain ⟨_, rfl, _⟩ := h
    rfl
  · obtain ⟨v, rfl, pv0, tb, k⟩ := h
    refine ⟨_, pss_cons (ps_set (i := 1) scLayout.nd rfl (Or.inl rfl) (pe_makeA (mkNames T) (ok_names T) hr rfl (gNames T) (bNamesInit T) pass0 (pa_cons (pv 0) pa_nil)))
      (pss_cons (ps_set (i := 2) scLayout.nd rfl (Or.inl rfl) pe_dTA)
      (pss_cons (ps_lockA (ps_for PassesOwn.never rfl (pi_keys (pe_fld (pv 1) rfl)) (pg_name (i := 3) scLayout.nd rfl (Or.inl rfl))
        (pss_cons (ps_set (i := 4) scLayout.nd rfl (Or.inl rfl) (pe_makeA (mkMaker T) (ok_maker T C) (hr.mono (by decide)) rfl (gMaker T) (bMakerInit T) pass0 (pa_cons (pv 1) (pa_cons (pv 3) pa_nil))))
        (pss_one (ps_dputA hr.u1 (pv 2) (pe_fld (pv 4) rfl) (pv 4) rfl)))))
      (pss_one (ps_ret (pv 2))))), ?_⟩
    refine ⟨_, rfl, fun n dx H1 k1 n0 hn => ⟨n, dx, v, rfl, hn, pv0.keep0 k1, fun H2 k2 nv => ⟨rfl, ?_⟩⟩⟩
    have q2 : Kx K [] H H2 := k1.trans k2 fun b z => .inr (by rw [List.mem_singleton.mp z]; exact n0)
    clear hn k1 k2 n0
    obtain ⟨dn, kd, od, md, ad, rd, sd, mk, hn, hmd, mv, had⟩ := nv
    refine fun pl H3 k3 pl0 hpl => ?_
    refine ⟨md, _, k3.get hmd (by simp) ntD, trivial, ntD, fun o Hl kl hl => ?_⟩
    have nmd : n ∉ [md] := fun z => by rw [List.mem_singleton.mp z, hmd] at hn; cases hn
    have q4 : Kx K [md] H2 Hl := Kx.trans (Kx.refl.then k3) kl fun b z => .inl z
    have plmd : md ≠ pl := ne_of_none hmd pl0
    refine ⟨_, rfl, n, _, dn, _, _, rfl, q4.get hn nmd ntI, clNames T, naNames_makers T, nfl1 .., md, o, rfl, .inr ⟨_, hl, ?_⟩⟩
    refine forOne (J := Itkt md o [([], .ref mk)]) (fun σ' H' => σ'[2]? = some (some (.ref pl)) ∧ H' md = some (.frz o (.dT [([], .ref mk)])) ∧ Kx K [md] H2 H' ∧ PlanV K H' pl) ⟨hl, Nat.zero_lt_one⟩ ?_ ?_
    · rintro x H' ⟨rfl, kk, vv, q, hk, rfl, hq⟩
      obtain ⟨rfl, rfl⟩ := Prod.mk.inj (Option.some.inj hk)
      refine ⟨_, rfl, _, rfl, fun m dx H5 k5 m0 hm => ?_⟩
      have q5 := q4.then k5
      have tS : ∀ {x : Addr} {xs : List V}, H2 x = some (.tup xs) → x ∉ [md] := fun hx z => by
        rw [List.mem_singleton.mp z, hmd] at hx; cases hx
      refine ⟨m, n, q, dx, rfl, hm, ⟨dn, kd, od, md, ad, rd, sd, mk, q5.get hn nmd ntI, .inr ⟨o, k5.get hl (by simp) ntF⟩, mv.keep q5 fun b z xs hb => tS hb z⟩, k5.get hq (by simp) ntT, q5.tb (q2.tb tb), fun H6 k6 mkv => ⟨rfl, ?_⟩⟩
      have m2 : H2 m = none := q4.fresh m0
      have q6 : Kx K [md] H2 H6 := q5.trans k6 fun b z => .inr (by rw [List.mem_singleton.mp z]; exact m2)
      have mdm : md ≠ m := ne_of_none hl m0
      have hpl4 := kl.get hpl (by simpa using Ne.symm plmd) ntD
      have plm : pl ≠ m := ne_of_none hpl4 m0
      have hpl6 := k6.get (k5.get hpl4 (by simp) ntD) (by simpa using plm) ntD
      have hl6 := k6.get (k5.get hl (by simp) ntF) (by simpa using mdm) ntF
      obtain ⟨dx', pl', pa, va, ki, nn, fi, ac, inn, hm6, hpa, hfi, hac⟩ := id mkv
      refine ⟨_, rfl, _, rfl, _, rfl, m, _, dx', _, _, rfl, hm6, clMaker T, naMaker_path T, mf_path .., pl, [], [], pa, rfl, rfl, hpl6, hpa, by decide, fun H7 k7 h7 => ?_⟩
      refine ⟨rfl, k7.get hl6 (by simpa using plmd) ntF, q6.trans k7 fun b z => .inr (by rw [List.mem_singleton.mp z]; exact pl0), m, h7, mkv.keep k7 fun b z => ?_⟩
      rw [List.mem_singleton.mp z]
      exact ⟨plm, fun xs e => by rw [hpl6] at e; cases e⟩
    · rintro σ' H' ⟨e2, hmd', q7, m, hp', mkv⟩
      refine ⟨⟨hmd', Nat.le_refl 1⟩, hmd', fun H8 k8 h8 => ?_⟩
      refine ⟨_, e2, ?_⟩
      have q8 : Kx K [md] H2 H8 := q7.trans k8 fun b z => .inl z
      refine k H8 pl (q2.then (q8.drop fun o' e => ?_)) ⟨m, k8.get hp' (by simpa using Ne.symm plmd) ntD, mkv.keep k8 fun b z => ?_⟩
      · rw [hmd] at e
        cases e
        exact h8
      · rw [List.mem_singleton.mp z]
        refine ⟨fun z => ?_, fun xs e => by rw [hmd'] at e; cases e⟩
        obtain ⟨dx', pl', pa, va, ki, nn, fi, ac, inn, hm6, _⟩ := mkv
        rw [← z, hmd'] at hm6
        cases hm6
end
end K29
end

section
set_option Elab.async false
set_option linter.all false
set_option maxRecDepth 100000
set_option maxHeartbeats 4000000
/-! The program of no parts: it has no mistake. -/
namespace K29
open PySem PySem.Spec PyProof.Rows L2 XT L2G
abbrev cC (K : PySem.W.Frag) : Addr := He.ga K "Check"
abbrev cf (n r : Addr) (pl : V) (st : Addr) : List (Str × V) := [("names", .ref n), ("rows", .ref r), ("place", pl), ("stand", .ref st)]
theorem cf_made (n r : Addr) (pl : V) (st : Addr) : putF "stand" (.ref st) (putF "place" pl (putF "rows" (.ref r) (putF "names" (.ref n) []))) = cf n r pl st := by kernel_rfl
theorem cf_put (n r : Addr) (pl pl' : V) (st : Addr) : putF "place" pl' (cf n r pl st) = cf n r pl' st := by kernel_rfl
theorem cf_names (n r : Addr) (pl : V) (st : Addr) : (cf n r pl st).lookup ("names" : Str) = some (.ref n) := by kernel_rfl
theorem cf_rows (n r : Addr) (pl : V) (st : Addr) : (cf n r pl st).lookup ("rows" : Str) = some (.ref r) := by kernel_rfl
/-- an object of class Check over the names n, no mistake told -/
def CheckV (K : PySem.W.Frag) (H : Hp) (c n : Addr) : Prop := ∃ (dx r : Addr) (pl : V) (st : Addr), H c = some (.ins (cC K) dx (cf n r pl st)) ∧ H r = some (.lst [])
theorem CheckV.keep {K : PySem.W.Frag} {S : List Addr} {H H' : Hp} {c n : Addr} (h : CheckV K H c n) (k : Kx K S H H') (hS : ∀ b ∈ S, b ≠ c ∧ ∀ xs, H b ≠ some (.lst xs)) : CheckV K H' c n :=
  let ⟨dx, r, pl, st, h1, h2⟩ := h
  ⟨dx, r, pl, st, k.get h1 (fun z => (hS _ z).1 rfl) ntI, k.get h2 (fun z => (hS _ z).2 _ h2) ntL⟩
theorem CheckV.keep0 {K : PySem.W.Frag} {H H' : Hp} {c n : Addr} (h : CheckV K H c n) (k : Kx K [] H H') : CheckV K H' c n := h.keep k fun b z => nomatch z
def spCheckInit (K : PySem.W.Frag) : Sp := fun vs H Q _ => ∃ (c n dx : Addr), vs = [.ref c, .ref n] ∧ H c = some (.ins (cC K) dx []) ∧ ∀ H', Kx K [c] H H' → CheckV K H' c n → Q .non H'
def spKinds (K : PySem.W.Frag) : Sp := fun vs H Q _ => ∃ (v : V) (a : Addr), vs = [v, .ref a] ∧ H a = some (.tup []) ∧ ∀ H', Kx K [] H H' → Q .non H'
def spCheckMaker (K : PySem.W.Frag) : Sp := fun vs H Q _ => ∃ (c n pl m : Addr), vs = [.ref c, .ref pl, .ref m] ∧ CheckV K H c n ∧ H pl = some (.tup []) ∧ MakV H m ∧ ∀ H', Kx K [c] H H' → CheckV K H' c n → Q .non H'
def spParts0 (K : PySem.W.Frag) : Sp := fun vs H Q _ => ∃ v, vs = [v] ∧ ProgV H v ∧ ∀ H', Kx K [] H H' → Q (.int 0) H'
def spNoMist (K : PySem.W.Frag) : Sp := fun vs H Q _ => ∃ v, vs = [v] ∧ ProgV H v ∧ Tb K H ∧ ∀ H' t, Kx K [] H H' → H' t = some (.tup []) → Q (.ref t) H'
def spSound (K : PySem.W.Frag) : Sp := fun vs H Q _ => ∃ v, vs = [v] ∧ ProgV H v ∧ Tb K H ∧ ∀ H', Kx K [] H H' → Q .non H'
section
variable {w : World} {K : PySem.W.Frag} {mg : Str → Option Value} {base : Heap}
theorem ok_checkInit (T : Txt K mg) : FnOk Pg w K mg base CX0 3 (aCheckInit K) (fdCheckInit K) PCheckInit (spCheckInit K) := by
  refine (fCheckInit T).ok0 scCheckInit (fun vs H Q E h => ?_) (fun cdv A outer s H vs Q E hr h => ?_)
  · obtain ⟨_, _, _, rfl, _⟩ := h
    rfl
  · obtain ⟨c, n, dx, rfl, hc, k⟩ := h
    refine ⟨_, pss_cons (ps_fldA (pv 0) (pv 1) rfl) (pss_cons (ps_fldA (pv 0) (pe_lstA pa_nil) rfl) (pss_cons (ps_fldA (pv 0) (pe_tupA pa_nil) rfl)
      (pss_one (ps_fldA (pv 0) (pe_makeA (mkStand T) (ok_standInit T) hr rfl (gStand T) (bStandInit T) pass0 (pa_cons (pv 1) (pa_cons (pe_tupA pa_nil) (pa_cons pe_non (pa_cons (pe_tupA pa_nil) pa_nil))))) rfl)))), ?_⟩
    refine ⟨_, rfl, _, rfl, c, _, dx, _, rfl, hc, clCheck T, naCheck_names T, by decide, fun H1 k1 h1 => ?_⟩
    refine ⟨by decide, fun r H2 k2 r0 hr2 => ?_⟩
    refine ⟨_, rfl, c, _, dx, _, rfl, k2.get h1 (by simp) ntI, clCheck T, naCheck_rows T, Nat.lt_of_le_of_lt (plen _ _ _ (Nat.le_refl 0)) (by decide), fun H3 k3 h3 => ?_⟩
    have nr : r ∉ [c] := by simpa using Ne.symm (ne_of_none h1 r0)
    have q3 : Kx K [c] H H3 := (k1.then k2).trans k3 fun b z => .inl z
    have hr3 := k3.get hr2 nr ntL
    refine ⟨by decide, fun pl H4 k4 pl0 hpl => ?_⟩
    refine ⟨_, rfl, c, _, dx, _, rfl, k4.get h3 (by simp) ntI, clCheck T, naCheck_place T, Nat.lt_of_le_of_lt (plen _ _ _ (plen _ _ _ (Nat.le_refl 0))) (by decide), fun H5 k5 h5 => ?_⟩
    have q5 : Kx K [c] H H5 := (q3.then k4).trans k5 fun b z => .inl z
    have hr5 := k5.get (k4.get hr3 (by simp) ntL) nr ntL
    refine ⟨_, rfl, by decide, fun p1 H6 k6 p10 hp1 => ⟨by decide, fun p2 H7 k7 p20 hp2 => ?_⟩⟩
    refine fun st ds H8 k8 st0 hst => ⟨st, ds, _, rfl, rfl, hst, fun H9 fs k9 h9 => ⟨rfl, ?_⟩⟩
    have q79 : Kx K [] H5 H9 := ((k6.then k7).then k8).trans k9 fun b z => .inr (by
      rw [List.mem_singleton.mp z]; exact (k6.then k7).fresh st0)
    refine ⟨_, rfl, c, _, dx, _, rfl, q79.get h5 (by simp) ntI, clCheck T, naCheck_stand T, Nat.lt_of_le_of_lt (plen _ _ _ (plen _ _ _ (plen _ _ _ (Nat.le_refl 0)))) (by decide), fun H10 k10 h10 => ?_⟩
    rw [cf_made] at h10
    exact k _ ((q5.then q79).trans k10 fun b z => .inl z) ⟨dx, r, _, st, h10, k10.get (q79.get hr5 (by simp) ntL) nr ntL⟩
theorem ok_kinds (T : Txt K mg) : FnOk Pg w K mg base CX0 1 (aCheckKinds K) (fdCheckKinds K) PCheckKinds (spKinds K) := by
  refine (fCheckKinds T).ok0 scCheckKinds (fun vs H Q E h => ?_) (fun cdv A outer s H vs Q E hr h => ?_)
  · obtain ⟨_, _, rfl, _⟩ := h
    rfl
  · obtain ⟨v, a, rfl, ha, k⟩ := h
    refine ⟨_, pss_cons (ps_set (i := 2) scCheckKinds.nd rfl (Or.inl rfl) (pe_lstA (pa_cons pe_str pa_nil))) (pss_cons (ps_set (i := 3) scCheckKinds.nd rfl (Or.inl rfl) (pe_lstA (pa_cons pe_str (pa_cons pe_str pa_nil))))
      (pss_one (ps_for PassesOwn.never rfl (pi_tup (pv 1)) pg_nv pss_nv))), ?_⟩
    refine ⟨by decide, fun x H1 k1 _ _ => ⟨by decide, fun y H2 k2 _ _ => ?_⟩⟩
    have q := k1.then k2
    exact ⟨_, rfl, a, rfl, ⟨[], SqT.of (q.get ha (by simp) ntT)⟩, forN (J := Itt K a) ⟨[], SqT.of (q.get ha (by simp) ntT), Nat.le_refl 0⟩ (k _ q)⟩
theorem ok_parts0 (T : Txt K mg) : FnOk Pg w K mg base CX0 1 (aPartsInAll K) (fdPartsInAll K) PPartsInAll (spParts0 K) := by
  refine (fPartsInAll T).ok0 scPartsInAll (fun vs H Q E h => ?_) (fun cdv A outer s H vs Q E hr h => ?_)
  · obtain ⟨_, rfl, _⟩ := h
    rfl
  · obtain ⟨v, rfl, ⟨p, a, b, c, rfl, hp, ha, hb, hc⟩, k⟩ := h
    refine ⟨_, pss_cons (ps_set (i := 1) scPartsInAll.nd rfl (Or.inl rfl) (pe_lstA (pa_cons (pe_ix ix_tup (pv 0) pe_int (fun _ _ => rfl)) pa_nil)))
      (pss_cons (ps_set (i := 2) scPartsInAll.nd rfl (Or.inl rfl) pe_int)
      (pss_cons (ps_while PassesOwn.never (pt_truth (pv 1) (fun _ => rfl))
        (pss_cons (ps_set (i := 3) scPartsInAll.nd rfl (Or.inl rfl) (pe_bm0 PySem.F.plainAttrs_list PySem.F.slot_list_pop PySem.F.type_list_pop mt_popA (pv 1)))
        (pss_cons (ps_aug (i := 2) scPartsInAll.nd rfl (Or.inl rfl) (pe_callB call_len_seq (by rfl) (nLen T) PySem.boot_len (pa_cons (pv 3) pa_nil)) ip_add)
        (pss_one (ps_aug (i := 1) scPartsInAll.nd rfl (Or.inl rfl) (pe_lc (own := [("part", 4)]) (by rfl) scPartsInAll.nd (pi_tup (pv 3)) (blkOk_by (N := NPartsInAll) (sc := defScope sPartsInAll) (by decide +kernel)) (fun _ _ _ _ _ => pg_nv) (fun _ _ _ _ _ => pts_nv) (fun _ _ _ _ _ => pe_nv)) iop_extA)))))
      (pss_one (ps_ret (pv 2))))), ?_⟩
    refine ⟨_, rfl, p, _, _, _, rfl, rfl, SqT.of hp, rfl, Nat.le_of_ble_eq_true rfl, fun lf H1 k1 lf0 hlf => ?_⟩
    refine ⟨fun m σ H' => (m = 1 ∧ σ = ((L2.start NPartsInAll [V.ref p]).set 1 (some (.ref lf))).set 2 (some (.int 0)) ∧ H1 = H') ∨ (m = 0 ∧ Kx K [] H H' ∧ σ[2]? = some (some (.int 0)) ∧ σ[1]? = some (some (.ref lf)) ∧ H' lf = some (.lst [])), ⟨1, .inl ⟨rfl, rfl, rfl⟩⟩, ?_⟩
    rintro m σ H' (⟨rfl, rfl, rfl⟩ | ⟨rfl, qf, e1, e2, hlf'⟩)
    · refine ⟨_, rfl, true, .inl ⟨_, SqL.of hlf, rfl⟩, iteT ⟨fun σ H' => Kx K [] H H' ∧ σ[2]? = some (some (.int 0)) ∧ σ[1]? = some (some (.ref lf)) ∧ H' lf = some (.lst []), fun σ' H2 f => ⟨0, by decide, .inr ⟨rfl, f⟩⟩, ?_⟩⟩
      refine ⟨_, rfl, .inl ⟨rfl, _, SqL.of hlf⟩, lf, _, _, rfl, rfl, hlf, rfl, fun H2 k2 h2 => ?_⟩
      have nc : c ∉ [lf] := by simpa using ne_of_none hc lf0
      have hc2 := k2.get (k1.get hc (by simp) ntT) nc ntT
      refine ⟨_, rfl, _, rfl, c, [], rfl, .inr (SqT.of hc2), _, _, rfl, rfl, ?_⟩
      refine ⟨_, rfl, _, rfl, c, rfl, ⟨[], SqT.of hc2⟩, ?_⟩
      refine lcN (K := K) (J := Itt K c) fun x H3 k3 x0 hx => ⟨⟨[], SqT.of (k3.get hc2 (by simp) ntT), Nat.le_refl 0⟩, lf, x, [], [], rfl, rfl, k3.get h2 (by simp) ntL, hx, by decide, fun H4 k4 h4 => ⟨?_, rfl, rfl, h4⟩⟩
      have fr : ∀ b ∈ [lf], b ∈ [] ∨ H b = none := fun b z => .inr (by rw [List.mem_singleton.mp z]; exact lf0)
      exact ((k1.trans k2 fr).then k3).trans k4 fr
    · exact ⟨_, e2, false, .inl ⟨_, SqL.of hlf', rfl⟩, iteF ⟨_, e1, k _ qf⟩⟩
end
end K29
end

section
set_option Elab.async false
set_option linter.all false
set_option maxRecDepth 100000
set_option maxHeartbeats 4000000
/-! The program of no parts: it is sound. -/
namespace L2
theorem Room.u64 {k : Nat} {A : PySem.Around} (h : Room k A) : A.units + 64 < PySem.cLine := by
  have := h.un
  omega
end L2
namespace K29
open PySem PySem.Spec PyProof.Rows L2 XT L2G
section
variable {X : Cx}
def rSortD0 (K : PySem.W.Frag) : List V → Hp → VK → Prop := fun xs H Q => ∃ a, xs = [.ref a] ∧ Rd H a (.dK []) ∧ New K H (.lst []) fun p H' => Q (.ref p) H'
theorem cr_sortD0 (hc : X.calm = true) : CallR X (.builtin "sorted") (rSortD0 X.K) := cr_mono (call_sortedD hc) fun xs H Q ⟨a, e, h, q⟩ => ⟨a, [], [], e, h, rfl, by decide, fun ys p hy _ hp => by
  have : ys = [] := List.Perm.eq_nil hy
  subst this
  exact q.go hp⟩
def rSet0A (K : PySem.W.Frag) (P : Program) (w : World) : List V → Hp → VK → Prop := fun xs H Q => ∃ l, xs = [.ref l] ∧ H l = some (.lst []) ∧ ∀ a H', Kx K [] H H' → H a = none → H' a = some (SetTO P w a []) → Q (.ref a) H'
theorem cr_set0A (hc : X.calm = true) (hu : X.A.units + 64 < PySem.cLine) : CallR X (.type "set") (rSet0A X.K X.prog X.w) := cr_mono (cr_setOfT hc hu) fun xs H Q ⟨l, e, h, q⟩ => ⟨l, [], e, SqL.of h, (fun _ z => nomatch z), by decide, fun a L ha hL _ => by
  have : L = [] := List.eq_nil_iff_forall_not_mem.mpr fun p hp => List.not_mem_nil (hL p hp)
  subst this
  exact q a _ (Kx.refl.new ha) ha upd_same⟩
def rSortT0 (K : PySem.W.Frag) (P : Program) (w : World) : List V → Hp → VK → Prop := fun xs H Q => ∃ a, xs = [.ref a] ∧ H a = some (SetTO P w a []) ∧ New K H (.lst []) fun p H' => Q (.ref p) H'
theorem cr_sortT0 (hc : X.calm = true) : CallR X (.builtin "sorted") (rSortT0 X.K X.prog X.w) := cr_mono (cr_sortedT hc) fun xs H Q ⟨a, e, h, q⟩ => ⟨a, [], 1, 0, e, h, (fun _ z => nomatch z), Nat.le_refl 1, (fun _ z => nomatch z), fun L' p hL _ _ _ hp => by
  have : L' = [] := List.Perm.eq_nil hL
  subst this
  exact q.go hp⟩
def rTup0 (K : PySem.W.Frag) : List V → Hp → VK → Prop := fun xs H Q => ∃ l, xs = [.ref l] ∧ H l = some (.lst []) ∧ New K H (.tup []) fun p H' => Q (.ref p) H'
theorem cr_tup0 : CallR X (.type "tuple") (rTup0 X.K) := cr_mono call_tuple_of fun xs H Q ⟨l, e, h, q⟩ => ⟨l, [], e, .inl ⟨SqL.of h, fun p hp => q.go hp⟩⟩
end
section
variable {w : World} {K : PySem.W.Frag} {mg : Str → Option Value} {base : Heap}
theorem iteD {c : Bool} {A B : Prop} (hc : c = false) (h : B) : if c = true then A else B := by
  rw [hc]
  exact iteF h
theorem ok_checkMaker (T : Txt K mg) : FnOk Pg w K mg base CX0 1 (aCheckMaker K) (fdCheckMaker K) PCheckMaker (spCheckMaker K) := by
  refine (fCheckMaker T).ok0 scCheckMaker (fun vs H Q E h => ?_) (fun cdv A outer s H vs Q E hr h => ?_)
  · obtain ⟨_, _, _, _, rfl, _⟩ := h
    rfl
  · obtain ⟨c, n, pl, m, rfl, ⟨dx, r, pl0, st, hc, hr0⟩, hpl, ⟨e, v, p, hm, he, hv, hp⟩, k⟩ := h
    refine ⟨_, pss_cons (ps_fldA (pv 0) (pv 1) rfl)
      (pss_cons (ps_set (i := 3) scCheckMaker.nd rfl (Or.inl rfl) (pe_op op_catN (pe_ix ix_tup (pv 2) pe_int (fun _ _ => rfl)) (pe_ix ix_tup (pv 2) pe_int (fun _ _ => rfl))))
      (pss_cons (ps_for PassesOwn.never rfl (pi_enum0 (by rfl) (nEnumerate T) (pa_cons (pv 3) pa_nil)) pg_nv pss_nv)
      (pss_cons (ps_for PassesOwn.never rfl (pi_enum0 (by rfl) (nEnumerate T) (pa_cons (pe_ix ix_tup (pv 2) pe_int (fun _ _ => rfl)) pa_nil)) pg_nv pss_nv)
      (pss_cons (ps_set (i := 4) scCheckMaker.nd rfl (Or.inl rfl) pe_int)
      (pss_cons (ps_for PassesOwn.never rfl (pi_tup (pv 3)) pg_nv pss_nv)
      (pss_cons (ps_if (PW.pt (pw_or (pt_cmpR op_gt (pe_callB call_len_seq (by rfl) (nLen T) PySem.boot_len (pa_cons (pv 3) pa_nil)) pe_int (by rfl)) (pw_or (pt_cmpR op_gt (pe_callB call_len_seq (by rfl) (nLen T) PySem.boot_len (pa_cons (pe_ix ix_tup (pv 2) pe_int (fun _ _ => rfl)) pa_nil)) pe_int (by rfl))
        (pw_or (pt_cmpR op_gt (pe_callB call_len_seq (by rfl) (nLen T) PySem.boot_len (pa_cons (pv 1) pa_nil)) pe_int (by rfl)) (pw_or1 (pt_cmpR op_gt (pv 4) pe_int (by rfl))))))) pss_nv pss_nil)
      (pss_one (ps_for PassesOwn.never rfl (pi_enum0 (by rfl) (nEnumerate T) (pa_cons (pe_ix ix_tup (pv 2) pe_int (fun _ _ => rfl)) pa_nil)) pg_nv pss_nv)))))))), ?_⟩
    have tS : ∀ {x : Addr} {xs : List V}, H x = some (.tup xs) → x ∉ [c] := fun hx z => by
      rw [List.mem_singleton.mp z, hc] at hx; cases hx
    have nr : r ∉ [c] := fun z => by rw [List.mem_singleton.mp z, hc] at hr0; cases hr0
    refine ⟨_, rfl, _, rfl, c, _, dx, _, rfl, hc, clCheck T, naCheck_place T, by show 4 < 1000; decide, fun H1 k1 h1 => ?_⟩
    rw [cf_put] at h1
    have m1 := k1.get hm (tS hm) ntT
    have e1 := k1.get he (tS he) ntT
    have v1 := k1.get hv (tS hv) ntT
    have p1 := k1.get hp (tS hp) ntT
    have pl1 := k1.get hpl (tS hpl) ntT
    refine ⟨_, rfl, m, _, _, _, rfl, rfl, SqT.of m1, rfl, _, rfl, m, _, _, _, rfl, rfl, SqT.of m1, rfl, e, v, rfl, rfl, e1, v1, ?_⟩
    refine ⟨_, rfl, v, rfl, SqT.of v1, forN (J := Ite0 K v) (SqT.of v1) ?_⟩
    refine ⟨_, rfl, m, _, _, _, rfl, rfl, SqT.of m1, rfl, v, rfl, SqT.of v1, forN (J := Ite0 K v) (SqT.of v1) ?_⟩
    refine ⟨_, rfl, v, rfl, ⟨[], SqT.of v1⟩, forN (J := Itt K v) ⟨[], SqT.of v1, Nat.le_refl 0⟩ ?_⟩
    refine ⟨_, rfl, v, [], rfl, .inr (SqT.of v1), _, _, rfl, rfl, _, rfl, iteD (by decide) ?_⟩
    refine ⟨_, rfl, m, _, _, _, rfl, rfl, SqT.of m1, rfl, p, [], rfl, .inr (SqT.of p1), _, _, rfl, rfl, _, rfl, iteD (by decide) ?_⟩
    refine ⟨_, rfl, pl, [], rfl, .inr (SqT.of pl1), _, _, rfl, rfl, _, rfl, iteD (by decide) ?_⟩
    refine ⟨_, rfl, _, _, rfl, rfl, _, rfl, iteD (by decide) ?_⟩
    refine ⟨_, rfl, m, _, _, _, rfl, rfl, SqT.of m1, rfl, p, rfl, SqT.of p1, forN (J := Ite0 K p) (SqT.of p1) ?_⟩
    exact k _ k1 ⟨dx, r, _, st, h1, k1.get hr0 nr ntL⟩
theorem ok_noMist (T : Txt K mg) (C : Cd K mg base) : FnOk Pg w K mg base CX0 5 (aMistakes K) (fdMistakes K) PMistakes (spNoMist K) := by
  refine (fMistakes T).ok0 scMistakes (fun vs H Q E h => ?_) (fun cdv A outer s H vs Q E hr h => ?_)
  · obtain ⟨_, rfl, _⟩ := h
    rfl
  · obtain ⟨v, rfl, pv0, tb, k⟩ := h
    refine ⟨_, pss_cons (ps_set (i := 1) scMistakes.nd rfl (Or.inl rfl) (pe_makeA (mkCheck T) (ok_checkInit T) hr rfl (gCheck T) (bCheckInit T) pass0 (pa_cons (pe_makeA (mkNames T) (ok_names T) hr rfl (gNames T) (bNamesInit T) pass0 (pa_cons (pv 0) pa_nil)) pa_nil)))
      (pss_cons (ps_expr (pe_call (ok_kinds T) (hr.mono (by decide)) rfl (gCheckKinds T) (fCheckKinds T).kp (bCheckKinds T) .nil pass0 (pa_cons (pv 1) (pa_cons (pe_ix ix_tup (pv 0) pe_int (fun _ _ => rfl)) pa_nil))))
      (pss_cons (ps_if (pt_cmpR op_gt (pe_call (ok_parts0 T) (hr.mono (by decide)) rfl (gPartsInAll T) (fPartsInAll T).kp (bPartsInAll T) .nil pass0 (pa_cons (pv 0) pa_nil)) pe_int (by rfl)) pss_nv pss_nil)
      (pss_cons (ps_lockA (ps_for PassesOwn.never rfl (pi_itemsT (pe_fld (pe_fld (pv 1) rfl) rfl)) (pg_tup rfl (pgs_cons (pg_name (i := 3) scMistakes.nd rfl (Or.inl rfl)) (pgs_cons (pg_name (i := 4) scMistakes.nd rfl (Or.inl rfl)) pgs_nil)))
        (pss_one (ps_expr (pe_call (ok_checkMaker T) (hr.mono (by decide)) rfl (gCheckMaker T) (fCheckMaker T).kp (bCheckMaker T) .nil pass0 (pa_cons (pv 1) (pa_cons (pv 3) (pa_cons (pv 4) pa_nil))))))))
      (pss_cons (ps_set (i := 2) scMistakes.nd rfl (Or.inl rfl) pe_dKA)
      (pss_cons (ps_for PassesOwn.never rfl (pi_list (pe_callB (cr_sortD0 rfl) (by rfl) (nSorted T) PyProof.Rows.boot_sorted (pa_cons (pe_fld (pe_fld (pv 1) rfl) rfl) pa_nil))) pg_nv pss_nv)
      (pss_one (ps_ret (pe_callTy cr_tup0 (by rfl) (nTuple T) (by decide +kernel) (pa_cons (pe_callB (cr_sortT0 rfl) (by rfl) (nSorted T) PyProof.Rows.boot_sorted (pa_cons (pe_callTy (cr_set0A rfl (Room.u64 hr)) (by rfl) (nSet T) (by decide +kernel) (pa_cons (pe_fld (pv 1) rfl) pa_nil)) pa_nil)) pa_nil))))))))), ?_⟩
    refine ⟨_, rfl, fun n dx H1 k1 n0 hn => ⟨n, dx, v, rfl, hn, pv0.keep0 k1, fun H2 k2 nv => ⟨rfl, ?_⟩⟩⟩
    have q2 : Kx K [] H H2 := k1.trans k2 fun b z => .inr (by rw [List.mem_singleton.mp z]; exact n0)
    refine fun c dc H3 k3 c0 hc => ⟨c, n, dc, rfl, hc, fun H4 k4 cv => ⟨rfl, ?_⟩⟩
    have k24 : Kx K [] H2 H4 := k3.trans k4 fun b z => .inr (by rw [List.mem_singleton.mp z]; exact c0)
    have nv4 := nv.keep0 k24
    have q4 : Kx K [] H H4 := q2.then k24
    have fc : H c = none := q2.fresh c0
    clear hn hc k1 k2 k3 k4 n0 c0 nv k24 q2
    obtain ⟨p, a, b, d, rfl, hp, ha, hb, hd⟩ := pv0.keep0 q4
    refine ⟨_, rfl, _, rfl, p, _, _, _, rfl, rfl, SqT.of hp, rfl, _, a, rfl, ha, fun H5 k5 => ?_⟩
    refine ⟨_, rfl, _, rfl, (pv0.keep0 q4).keep0 k5, fun H6 k6 => ⟨_, _, rfl, rfl, _, rfl, iteD (by decide) ?_⟩⟩
    have q6 := (q4.then k5).then k6
    have cv6 := (cv.keep0 k5).keep0 k6
    obtain ⟨dn, kd, od, md, ad, rd, sd, mk, hn6, hmd6, mv6, had6⟩ := (nv4.keep0 k5).keep0 k6
    clear nv4 cv k5 k6 hp ha hb hd
    obtain ⟨dx6, r6, pl6, st6, hc6, hr6⟩ := id cv6
    have nmd : n ∉ [md] := fun z => by rw [List.mem_singleton.mp z, hmd6] at hn6; cases hn6
    have cmd : c ∉ [md] := fun z => by rw [List.mem_singleton.mp z, hmd6] at hc6; cases hc6
    have nc : n ≠ c := fun z => by
      rw [z] at hn6
      have := Option.some.inj (hc6.symm.trans hn6)
      injection this with _ _ h
      cases h
    refine ⟨md, _, hmd6, trivial, ntD, fun o Hl kl hl => ?_⟩
    refine ⟨_, rfl, c, _, dx6, _, _, rfl, kl.get hc6 cmd ntI, clCheck T, naCheck_names T, cf_names .., n, _, dn, _, _, rfl, kl.get hn6 nmd ntI, clNames T, naNames_makers T, nfl1 .., md, o, _, rfl, hl, ?_⟩
    refine forOne (J := ItiT md o [([], .ref mk)]) (fun σ' H' => σ'[1]? = some (some (.ref c)) ∧ H' md = some (.frz o (.dT [([], .ref mk)])) ∧ Kx K [md, c] H6 H' ∧ CheckV K H' c n) ⟨hl, Nat.zero_lt_one⟩ ?_ ?_
    · rintro x H' ⟨tt, q, kk, vv, hk, rfl, hT, hq, rfl⟩
      obtain ⟨rfl, rfl⟩ := Prod.mk.inj (Option.some.inj hk)
      have kT : Kx K [] Hl (upd Hl tt (.tup [.ref q, .ref mk])) := Kx.refl.new hT
      have ql : Kx K [md] H6 (upd Hl tt (.tup [.ref q, .ref mk])) := kl.then kT
      refine ⟨tt, _, rfl, SqT.of upd_same, rfl, _, _, rfl, _, _, rfl, rfl, ?_⟩
      have cvl := cv6.keep ql fun b z => by
        rw [List.mem_singleton.mp z]
        exact ⟨fun y => cmd (by simp [y]), fun xs e => by rw [hmd6] at e; cases e⟩
      refine ⟨_, rfl, _, rfl, _, rfl, c, n, q, mk, rfl, cvl, kT.get hq (by simp) ntT, mv6.keep ql (fun b z xs e => by rw [List.mem_singleton.mp z, hmd6] at e; cases e), fun H7 k7 cv7 => ?_⟩
      refine ⟨rfl, k7.get (kT.get hl (by simp) ntF) (fun z => cmd (by rw [List.mem_singleton.mp z]; simp)) ntF, ?_, cv7⟩
      have e1 : Kx K [md, c] H6 (upd Hl tt (.tup [.ref q, .ref mk])) := Kx.refl.trans ql fun b z => .inl (by rw [List.mem_singleton.mp z]; simp)
      exact e1.trans k7 fun b z => .inl (by rw [List.mem_singleton.mp z]; simp)
    · rintro σ' H' ⟨e1, hmd', q7, cv7⟩
      refine ⟨⟨hmd', Nat.le_refl 1⟩, hmd', fun H8 k8 h8 => ?_⟩
      have q8 : Kx K [md, c] H6 H8 := q7.trans k8 fun b z => .inl (by rw [List.mem_singleton.mp z]; simp)
      have d8 : Kx K [c] H6 H8 := q8.drop fun o' e => by rw [hmd6] at e; cases e; exact h8
      have q : Kx K [] H H8 := q6.trans d8 fun b z => .inr (by rw [List.mem_singleton.mp z]; exact fc)
      have hn8 := d8.get hn6 (by simpa using nc) ntI
      have had8 := d8.get had6 (fun z => by rw [List.mem_singleton.mp z, hc6] at had6; cases had6) ntK
      obtain ⟨dx, r, pl, st, hc8, hr8⟩ := cv7.keep k8 fun b z => by
        rw [List.mem_singleton.mp z]
        exact ⟨fun y => cmd (by simp [y]), fun xs e => by rw [hmd'] at e; cases e⟩
      refine fun sz H9 k9 _ _ => ?_
      refine ⟨_, (List.getElem?_set_ne (by decide)).trans e1, c, _, dx, _, _, rfl, k9.get hc8 (by simp) ntI, clCheck T, naCheck_names T, cf_names .., n, _, dn, _, _, rfl, k9.get hn8 (by simp) ntI, clNames T, naNames_acts T, nfl2 .., ad, rfl, .inl (k9.get had8 (by simp) ntK), fun ls H10 k10 _ hls => ?_⟩
      have k810 := k9.then k10
      refine ⟨ls, rfl, ⟨[], SqL.of hls⟩, forN (J := Itl K ls) ⟨[], SqL.of hls, Nat.le_refl 0⟩ ?_⟩
      refine ⟨_, (List.getElem?_set_ne (by decide)).trans e1, c, _, dx, _, _, rfl, k810.get hc8 (by simp) ntI, clCheck T, naCheck_rows T, cf_rows .., r, rfl, k810.get hr8 (by simp) ntL, fun s1 H11 k11 _ hs1 => ?_⟩
      exact ⟨s1, rfl, hs1, fun l2 H12 k12 _ hl2 => ⟨l2, rfl, hl2, fun t H13 k13 _ ht => k _ t ((((q.then k810).then k11).then k12).then k13) ht⟩⟩
theorem ok_sound (T : Txt K mg) (C : Cd K mg base) : FnOk Pg w K mg base CX0 6 (aSound K) (fdSound K) PSound (spSound K) := by
  refine (fSound T).ok0 scSound (fun vs H Q E h => ?_) (fun cdv A outer s H vs Q E hr h => ?_)
  · obtain ⟨_, rfl, _⟩ := h
    rfl
  · obtain ⟨v, rfl, pv0, tb, k⟩ := h
    refine ⟨_, pss_one (ps_if (pt_truth (pe_call (ok_noMist T C) hr rfl (gMistakes T) (fMistakes T).kp (bMistakes T) .nil pass0 (pa_cons (pv 0) pa_nil)) (fun _ => rfl)) pss_nv pss_nil), ?_⟩
    exact ⟨_, rfl, v, rfl, pv0, tb, fun H' t q ht => ⟨false, .inr (.inl ⟨[], SqT.of ht, rfl⟩), iteF (k _ q)⟩⟩
end
end K29
end

section
set_option Elab.async false
set_option linter.all false
set_option maxRecDepth 100000
set_option maxHeartbeats 4000000
/-! The program of no parts: its walk begins. -/
namespace K29
open PySem PySem.Spec PyProof.Rows L2 XT L2G
section
variable {X : Cx}
def rCat0 (K : PySem.W.Frag) : R2 := fun x y H Q => ∃ a b ys, x = .ref a ∧ y = .ref b ∧ H a = some (.tup []) ∧ H b = some (.tup ys) ∧ ys.length ≤ 1000 ∧ Q (.ref b) H
theorem op_cat0 : OpR X (binaryOp .Add) (rCat0 X.K) := fun pins s σ H x y v u Q I rx ry ⟨a, b, ys, e1, e2, h1, h2, hl, q⟩ => op_catA pins s σ H x y v u Q I rx ry ⟨a, b, [], ys, e1, e2, SqT.of h1, SqT.of h2, by rw [sizeLine_eq]; simp; omega, fun _ => q, fun z => absurd rfl z, fun z => absurd rfl z⟩
def rList0 (K : PySem.W.Frag) : List V → Hp → VK → Prop := fun xs H Q => ∃ p, xs = [.ref p] ∧ H p = some (.tup []) ∧ New K H (.lst []) fun l H' => Q (.ref l) H'
theorem cr_list0 : CallR X (.type "list") (rList0 X.K) := cr_mono call_list_of fun xs H Q ⟨p, e, h, q⟩ => ⟨p, [], e, .inr (SqT.of h), fun l hl => q.go hl⟩
theorem ps_nv {st : Stmt} : PS X st (fun _ _ _ => False) := ⟨fun _ _ _ _ _ _ h => h.elim⟩
end
abbrev cD (K : PySem.W.Frag) : Addr := He.ga K "Doing"
abbrev cA (K : PySem.W.Frag) : Addr := He.ga K "Acting"
abbrev cW (K : PySem.W.Frag) : Addr := He.ga K "Walk"
abbrev df (co rows ev sk wt : Addr) (cd : V) (n : Int) (gv pl : Addr) : List (Str × V) := [("codes", .ref co), ("rows", .ref rows), ("events", .ref ev), ("stack", .ref sk), ("waiting", .ref wt), ("code", cd), ("at", .int n), ("givens", .ref gv), ("place", .ref pl)]
theorem df_made (co rows ev sk wt : Addr) (cd : V) (n : Int) (gv pl : Addr) : putF "place" (.ref pl) (putF "givens" (.ref gv) (putF "at" (.int n) (putF "code" cd (putF "waiting" (.ref wt) (putF "stack" (.ref sk) (putF "events" (.ref ev) (putF "rows" (.ref rows) (putF "codes" (.ref co) [])))))))) = df co rows ev sk wt cd n gv pl := by kernel_rfl
theorem df_rows (co rows ev sk wt : Addr) (cd : V) (n : Int) (gv pl : Addr) : (df co rows ev sk wt cd n gv pl).lookup ("rows" : Str) = some (.ref rows) := by kernel_rfl
theorem df_events (co rows ev sk wt : Addr) (cd : V) (n : Int) (gv pl : Addr) : (df co rows ev sk wt cd n gv pl).lookup ("events" : Str) = some (.ref ev) := by kernel_rfl
def DoV (K : PySem.W.Frag) (H : Hp) (d : Addr) : Prop := ∃ (dx co rows ev sk wt : Addr) (cd : V) (n : Int) (gv pl l : Addr), H d = some (.ins (cD K) dx (df co rows ev sk wt cd n gv pl)) ∧ H rows = some (.lst [.ref l]) ∧ H l = some (.lst []) ∧ H ev = some (.lst [])
def spDoing (K : PySem.W.Frag) : Sp := fun vs H Q _ => ∃ (d dx co ch t : Addr), vs = [.ref d, .ref co, .ref ch] ∧ H d = some (.ins (cD K) dx []) ∧ H ch = some (.tup [.ref t]) ∧ H t = some (.tup []) ∧ ∀ H', Kx K [d] H H' → DoV K H' d → Q .non H'
abbrev af (pl cd fd : Addr) : List (Str × V) := [("plan", .ref pl), ("codes", .ref cd), ("firsts", .ref fd)]
theorem af_made (pl cd fd : Addr) : putF "firsts" (.ref fd) (putF "codes" (.ref cd) (putF "plan" (.ref pl) [])) = af pl cd fd := by kernel_rfl
theorem af_codes (pl cd fd : Addr) : (af pl cd fd).lookup ("codes" : Str) = some (.ref cd) := by kernel_rfl
theorem af_firsts (pl cd fd : Addr) : (af pl cd fd).lookup ("firsts" : Str) = some (.ref fd) := by kernel_rfl
theorem af_made0 (pl cd fd : Addr) : (af pl cd fd).lookup ("made" : Str) = none := by kernel_rfl
theorem wk_acting (v w u : V) : (putF "paths" v (putF "acting" w (putF "plan" u []))).lookup ("acting" : Str) = some w := by kernel_rfl
def ActV (K : PySem.W.Frag) (H : Hp) (a : Addr) : Prop := ∃ (dx pl cd fd l : Addr), H a = some (.ins (cA K) dx (af pl cd fd)) ∧ H fd = some (.dT [([], .ref l)]) ∧ H l = some (.lst [])
def spActing (K : PySem.W.Frag) : Sp := fun vs H Q _ => ∃ (a p dx : Addr), vs = [.ref a, .ref p] ∧ H a = some (.ins (cA K) dx []) ∧ PlanV K H p ∧ ∀ H', Kx K [a] H H' → ActV K H' a → Q .non H'
def spMade (K : PySem.W.Frag) : Sp := fun vs H Q _ => ∃ (a p ch t : Addr), vs = [.ref a, .ref p, .ref ch, .ref t] ∧ ActV K H a ∧ H p = some (.tup []) ∧ H ch = some (.tup []) ∧ H t = some (.tup []) ∧ ∀ H' r x y, Kx K [] H H' → H' r = some (.tup [.non, .ref ch, .ref x, .ref y]) → Q (.ref r) H'
def spWalk (K : PySem.W.Frag) : Sp := fun vs H Q _ => ∃ (a p dx : Addr), vs = [.ref a, .ref p] ∧ H a = some (.ins (cW K) dx []) ∧ PlanV K H p ∧ ∀ H', Kx K [a] H H' → Q .non H'
section
variable {w : World} {K : PySem.W.Frag} {mg : Str → Option Value} {base : Heap}
theorem PlanV.keep0 {K : PySem.W.Frag} {H H' : Hp} {p : Addr} (h : PlanV K H p) (k : Kx K [] H H') : PlanV K H' p := let ⟨m, h1, h2⟩ := h; ⟨m, k.get h1 (by simp) ntD, h2.keep k fun b z => nomatch z⟩
theorem ok_doing (T : Txt K mg) : FnOk Pg w K mg base CX0 1 (aDoingInit K) (fdDoingInit K) PDoingInit (spDoing K) := by
  refine (fDoingInit T).ok0 scDoingInit (fun vs H Q E h => ?_) (fun cdv A outer s H vs Q E hr h => ?_)
  · obtain ⟨_, _, _, _, _, rfl, _⟩ := h
    rfl
  · obtain ⟨d, dx, co, ch, t, rfl, hd, hch, ht, k⟩ := h
    refine ⟨_, pss_cons (ps_fldA (pv 0) (pv 1) rfl)
      (pss_cons (ps_fldA (pv 0) (pe_lc (te := tCB (rList0 K) (tCons (tVar 3) tNil)) (own := [("row", 3)]) (g := gName 3) (by rfl) scDoingInit.nd (pi_tup (pv 2)) (blkOk_by (N := NDoingInit) (sc := defScope sDoingInit) (by decide +kernel)) (fun _ _ _ _ _ => pg_name (i := 3) scDoingInit.nd rfl (Or.inl rfl)) (fun _ _ _ _ _ => pts_nil)
        (fun _ _ _ _ _ => pe_callTy cr_list0 (by rfl) (nList T) (by decide +kernel) (pa_cons (pv 3) pa_nil))) rfl)
      (pss_cons (ps_fldA (pv 0) (pe_lstA pa_nil) rfl)
      (pss_cons (ps_fldA (pv 0) (pe_lstA pa_nil) rfl)
      (pss_cons (ps_fldA (pv 0) (pe_lstA pa_nil) rfl)
      (pss_cons (ps_fldA (pv 0) (pe_tupA pa_nil) rfl)
      (pss_cons (ps_fldA (pv 0) pe_int rfl)
      (pss_cons (ps_fldA (pv 0) (pe_lstA pa_nil) rfl)
      (pss_one (ps_fldA (pv 0) (pe_tupA pa_nil) rfl))))))))), ?_⟩
    refine ⟨_, rfl, _, rfl, d, _, dx, _, rfl, hd, clDoing T, naDoing_codes T, by decide, fun H1 k1 h1 => ?_⟩
    have q1 : Kx K [d] H H1 := k1
    have tS : ∀ {x : Addr} {xs : List V}, H x = some (.tup xs) → x ∉ [d] := fun hx z => by
      rw [List.mem_singleton.mp z, hd] at hx; cases hx
    have hch1 := k1.get hch (tS hch) ntT
    have ht1 := k1.get ht (tS ht) ntT
    refine ⟨_, rfl, ch, rfl, ⟨_, SqT.of hch1⟩, fun D hD => ?_⟩
    refine ⟨fun i m H' => (i = 0 ∧ m = 1 ∧ upd H1 D (.lst []) = H') ∨ (i = 1 ∧ m = 0 ∧ ∃ l, Kx K [] H1 H' ∧ H' D = some (.lst [.ref l]) ∧ H' l = some (.lst [])), ⟨1, .inl ⟨rfl, rfl, rfl⟩⟩, ?_⟩
    have kD : Kx K [] H1 (upd H1 D (.lst [])) := Kx.refl.new hD
    rintro i m H' (⟨rfl, rfl, rfl⟩ | ⟨rfl, rfl, l, kl, hDl, hl⟩)
    · refine .inr ⟨⟨_, .ref t, SqT.of (kD.get hch1 (by simp) ntT), rfl⟩, fun H' => ∃ l, Kx K [] H1 H' ∧ H' D = some (.lst [.ref l]) ∧ H' l = some (.lst []), fun H' f => ⟨0, by decide, .inr ⟨rfl, rfl, f⟩⟩, ?_⟩
      rintro x H' ⟨rfl, hx⟩
      obtain rfl : V.ref t = x := Option.some.inj (hx _ (SqT.of (kD.get hch1 (by simp) ntT)))
      refine ⟨rfl, yes_t ⟨_, rfl, t, rfl, kD.get ht1 (by simp) ntT, fun l H4 k4 l0 hl => ?_⟩⟩
      have hD4 := k4.get (upd_same (H := H1) (a := D) (o := .lst [])) (by simp) ntL
      have nDl : l ≠ D := fun z => by rw [z, upd_same] at l0; cases l0
      refine ⟨[], hD4, by rw [sizeLine_eq]; decide, l, (kD.then k4).set (.inr hD) hD4 ntL, upd_same, (upd_ne nDl).trans hl⟩
    · refine .inl ⟨⟨_, SqT.of (kl.get hch1 (by simp) ntT), Nat.le_refl 1⟩, ?_⟩
      refine ⟨_, rfl, d, _, dx, _, rfl, kl.get h1 (by simp) ntI, clDoing T, naDoing_rows T, Nat.lt_of_le_of_lt (plen _ _ _ (Nat.le_refl 0)) (by decide), fun H3 k3 h3 => ?_⟩
      have nD : D ∉ [d] := fun z => by rw [List.mem_singleton.mp z, h1] at hD; cases hD
      have nl : l ∉ [d] := fun z => by
        have a1 := kl.get h1 (by simp) ntI
        rw [List.mem_singleton.mp z, a1] at hl; cases hl
      have q3 : Kx K [d] H H3 := (q1.then kl).trans k3 fun b z => .inl z
      have D3 := k3.get hDl nD ntL
      have l3 := k3.get hl nl ntL
      refine ⟨by decide, fun ev H4 k4 ev0 hev => ?_⟩
      refine ⟨_, rfl, d, _, dx, _, rfl, k4.get h3 (by simp) ntI, clDoing T, naDoing_events T, Nat.lt_of_le_of_lt (plen _ _ _ (plen _ _ _ (Nat.le_refl 0))) (by decide), fun H5 k5 h5 => ?_⟩
      have q5 : Kx K [d] H H5 := (q3.then k4).trans k5 fun b z => .inl z
      have D5 := k5.get (k4.get D3 (by simp) ntL) nD ntL
      have l5 := k5.get (k4.get l3 (by simp) ntL) nl ntL
      have nev : ev ∉ [d] := by simpa using Ne.symm (ne_of_none h3 ev0)
      have ev5 := k5.get hev nev ntL
      refine ⟨by decide, fun sk H6 k6 sk0 hsk => ?_⟩
      refine ⟨_, rfl, d, _, dx, _, rfl, k6.get h5 (by simp) ntI, clDoing T, naDoing_stack T, Nat.lt_of_le_of_lt (plen _ _ _ (plen _ _ _ (plen _ _ _ (Nat.le_refl 0)))) (by decide), fun H7 k7 h7 => ?_⟩
      have q7 : Kx K [d] H H7 := (q5.then k6).trans k7 fun b z => .inl z
      have D7 := k7.get (k6.get D5 (by simp) ntL) nD ntL
      have l7 := k7.get (k6.get l5 (by simp) ntL) nl ntL
      have ev7 := k7.get (k6.get ev5 (by simp) ntL) nev ntL
      refine ⟨by decide, fun wt H8 k8 wt0 hwt => ?_⟩
      refine ⟨_, rfl, d, _, dx, _, rfl, k8.get h7 (by simp) ntI, clDoing T, naDoing_waiting T, Nat.lt_of_le_of_lt (plen _ _ _ (plen _ _ _ (plen _ _ _ (plen _ _ _ (Nat.le_refl 0))))) (by decide), fun H9 k9 h9 => ?_⟩
      have q9 : Kx K [d] H H9 := (q7.then k8).trans k9 fun b z => .inl z
      have D9 := k9.get (k8.get D7 (by simp) ntL) nD ntL
      have l9 := k9.get (k8.get l7 (by simp) ntL) nl ntL
      have ev9 := k9.get (k8.get ev7 (by simp) ntL) nev ntL
      refine ⟨by decide, fun cdd H10 k10 cdd0 hcdd => ?_⟩
      refine ⟨_, rfl, d, _, dx, _, rfl, k10.get h9 (by simp) ntI, clDoing T, naDoing_code T, Nat.lt_of_le_of_lt (plen _ _ _ (plen _ _ _ (plen _ _ _ (plen _ _ _ (plen _ _ _ (Nat.le_refl 0)))))) (by decide), fun H11 k11 h11 => ?_⟩
      have q11 : Kx K [d] H H11 := (q9.then k10).trans k11 fun b z => .inl z
      have D11 := k11.get (k10.get D9 (by simp) ntL) nD ntL
      have l11 := k11.get (k10.get l9 (by simp) ntL) nl ntL
      have ev11 := k11.get (k10.get ev9 (by simp) ntL) nev ntL
      refine ⟨_, rfl, d, _, dx, _, rfl, h11, clDoing T, naDoing_at T, Nat.lt_of_le_of_lt (plen _ _ _ (plen _ _ _ (plen _ _ _ (plen _ _ _ (plen _ _ _ (plen _ _ _ (Nat.le_refl 0))))))) (by decide), fun H13 k13 h13 => ?_⟩
      have q13 : Kx K [d] H H13 := q11.trans k13 fun b z => .inl z
      have D13 := k13.get D11 nD ntL
      have l13 := k13.get l11 nl ntL
      have ev13 := k13.get ev11 nev ntL
      refine ⟨by decide, fun gv H14 k14 gv0 hgv => ?_⟩
      refine ⟨_, rfl, d, _, dx, _, rfl, k14.get h13 (by simp) ntI, clDoing T, naDoing_givens T, Nat.lt_of_le_of_lt (plen _ _ _ (plen _ _ _ (plen _ _ _ (plen _ _ _ (plen _ _ _ (plen _ _ _ (plen _ _ _ (Nat.le_refl 0)))))))) (by decide), fun H15 k15 h15 => ?_⟩
      have q15 : Kx K [d] H H15 := (q13.then k14).trans k15 fun b z => .inl z
      have D15 := k15.get (k14.get D13 (by simp) ntL) nD ntL
      have l15 := k15.get (k14.get l13 (by simp) ntL) nl ntL
      have ev15 := k15.get (k14.get ev13 (by simp) ntL) nev ntL
      refine ⟨by decide, fun pp H16 k16 pp0 hpp => ?_⟩
      refine ⟨_, rfl, d, _, dx, _, rfl, k16.get h15 (by simp) ntI, clDoing T, naDoing_place T, Nat.lt_of_le_of_lt (plen _ _ _ (plen _ _ _ (plen _ _ _ (plen _ _ _ (plen _ _ _ (plen _ _ _ (plen _ _ _ (plen _ _ _ (Nat.le_refl 0))))))))) (by decide), fun H17 k17 h17 => ?_⟩
      have q17 : Kx K [d] H H17 := (q15.then k16).trans k17 fun b z => .inl z
      have D17 := k17.get (k16.get D15 (by simp) ntL) nD ntL
      have l17 := k17.get (k16.get l15 (by simp) ntL) nl ntL
      have ev17 := k17.get (k16.get ev15 (by simp) ntL) nev ntL
      rw [df_made] at h17
      exact k _ q17 ⟨dx, co, D, ev, sk, wt, _, _, gv, pp, l, h17, D17, l17, ev17⟩
theorem ok_acting (T : Txt K mg) : FnOk Pg w K mg base CX0 1 (aActingInit K) (fdActingInit K) PActingInit (spActing K) := by
  refine (fActingInit T).ok0 scActingInit (fun vs H Q E h => ?_) (fun cdv A outer s H vs Q E hr h => ?_)
  · obtain ⟨_, _, _, rfl, _⟩ := h
    rfl
  · obtain ⟨a, p, dx, rfl, ha, ⟨m, hp, mkv⟩, k⟩ := h
    refine ⟨_, pss_cons (ps_fldA (pv 0) (pv 1) rfl) (pss_cons (ps_fldA (pv 0) pe_dKA rfl) (pss_cons (ps_fldA (pv 0) pe_dTA rfl)
      (pss_one (ps_lockA (ps_for PassesOwn.never rfl (pi_itemsT (pv 1)) (pg_tup rfl (pgs_cons (pg_name (i := 2) scActingInit.nd rfl (Or.inl rfl)) (pgs_cons (pg_name (i := 3) scActingInit.nd rfl (Or.inl rfl)) pgs_nil)))
        (pss_cons (ps_dputA hr.u1 (pe_fld (pv 0) rfl) (pv 2) (pe_lc (own := [("value", 5)]) (by rfl) scActingInit.nd (pi_tup (pe_fld (pv 3) rfl)) (blkOk_by (N := NActingInit) (sc := defScope sActingInit) (by decide +kernel)) (fun _ _ _ _ _ => pg_nv) (fun _ _ _ _ _ => pts_nv) (fun _ _ _ _ _ => pe_nv)) rfl)
        (pss_one (ps_for PassesOwn.never rfl (pi_tup (pe_fld (pv 3) rfl)) pg_nv pss_nv)))))))), ?_⟩
    refine ⟨_, rfl, _, rfl, a, _, dx, _, rfl, ha, clActing T, naActing_plan T, by decide, fun H1 k1 h1 => ?_⟩
    have pS : p ∉ [a] := fun z => by rw [List.mem_singleton.mp z, ha] at hp; cases hp
    have mS : ∀ b ∈ [a], b ≠ m ∧ ∀ xs, H b ≠ some (.tup xs) := fun b z => by
      rw [List.mem_singleton.mp z]
      refine ⟨fun y => ?_, fun xs e => by rw [ha] at e; cases e⟩
      obtain ⟨_, _, _, _, _, _, _, _, _, hm, _⟩ := mkv
      rw [← y] at hm
      have := Option.some.inj (ha.symm.trans hm)
      injection this with _ _ h
      cases h
    refine fun cd H2 k2 cd0 hcd => ?_
    refine ⟨_, rfl, a, _, dx, _, rfl, k2.get h1 (by simp) ntI, clActing T, naActing_codes T, Nat.lt_of_le_of_lt (plen _ _ _ (Nat.le_refl 0)) (by decide), fun H3 k3 h3 => ?_⟩
    have q3 : Kx K [a] H H3 := (k1.then k2).trans k3 fun b z => .inl z
    refine fun fd H4 k4 fd0 hfd => ?_
    refine ⟨_, rfl, a, _, dx, _, rfl, k4.get h3 (by simp) ntI, clActing T, naActing_firsts T, Nat.lt_of_le_of_lt (plen _ _ _ (plen _ _ _ (Nat.le_refl 0))) (by decide), fun H5 k5 h5 => ?_⟩
    have q5 : Kx K [a] H H5 := (q3.then k4).trans k5 fun b z => .inl z
    have nfd : fd ∉ [a] := by simpa using Ne.symm (ne_of_none h3 fd0)
    have hfd5 := k5.get hfd nfd ntD
    have ffd : H fd = none := q3.fresh fd0
    rw [af_made] at h5
    have hp5 := q5.get hp pS ntD
    have mkv5 := mkv.keep q5 mS
    clear k1 k2 k3 k4 k5 hcd cd0 fd0 hfd h1 h3 q3
    obtain ⟨dxm, plm, pa, va, ki, nn, fi, ac, inn, hm5, hpa5, hfi5, hac5⟩ := mkv5
    have npf : p ≠ fd := fun z => by rw [z, ffd] at hp; cases hp
    have tS : ∀ {x : Addr} {xs : List V}, H5 x = some (.tup xs) → x ∉ [p, fd] := fun hx z => by
      simp only [List.mem_cons, List.not_mem_nil, or_false] at z
      rcases z with z | z
      · rw [z, hp5] at hx; cases hx
      · rw [z, hfd5] at hx; cases hx
    have iS : ∀ {x C d : Addr} {xs : List (Str × V)}, H5 x = some (.ins C d xs) → x ∉ [p, fd] := fun hx z => by
      simp only [List.mem_cons, List.not_mem_nil, or_false] at z
      rcases z with z | z
      · rw [z, hp5] at hx; cases hx
      · rw [z, hfd5] at hx; cases hx
    refine ⟨p, _, hp5, trivial, ntD, fun o Hl kl hl => ?_⟩
    have ql : Kx K [p, fd] H5 Hl := Kx.refl.trans kl fun b z => .inl (by rw [List.mem_singleton.mp z]; simp)
    refine ⟨_, rfl, p, o, _, rfl, hl, ?_⟩
    refine forOne (J := ItiT p o [([], .ref m)]) (fun σ' H' => H' p = some (.frz o (.dT [([], .ref m)])) ∧ Kx K [p, fd] H5 H' ∧ ∃ l, H' fd = some (.dT [([], .ref l)]) ∧ H' l = some (.lst [])) ⟨hl, Nat.zero_lt_one⟩ ?_ ?_
    · rintro x H' ⟨tt, q, kk, vv, hk, rfl, hT, hq, rfl⟩
      obtain ⟨rfl, rfl⟩ := Prod.mk.inj (Option.some.inj hk)
      have kT : Kx K [] Hl (upd Hl tt (.tup [.ref q, .ref m])) := Kx.refl.new hT
      refine ⟨tt, _, rfl, SqT.of upd_same, rfl, _, _, rfl, _, _, rfl, rfl, ?_⟩
      have qT := ql.then kT
      have hlT := kT.get hl (by simp) ntF
      have hqT := kT.get hq (by simp) ntT
      have hfdT := kT.get (kl.get hfd5 (by simpa using Ne.symm npf) ntD) (by simp) ntD
      generalize upd Hl tt (.tup [.ref q, .ref m]) = HT at *
      refine ⟨_, rfl, m, _, dxm, _, _, rfl, qT.get hm5 (iS hm5) ntI, clMaker T, naMaker_firsts T, mf_firsts .., fi, rfl, ⟨[], SqT.of (qT.get hfi5 (tS hfi5) ntT)⟩, ?_⟩
      refine lcN (K := K) (J := Itt K fi) fun l H7 k7 l0 hl7 => ⟨⟨[], SqT.of (k7.get (qT.get hfi5 (tS hfi5) ntT) (by simp) ntT), Nat.le_refl 0⟩, ?_⟩
      have q7 := qT.then k7
      refine ⟨_, rfl, a, _, dx, _, _, rfl, q7.get h5 (iS h5) ntI, clActing T, naActing_firsts T, af_firsts .., _, rfl, fd, [], [], q, rfl, rfl, k7.get hfdT (by simp) ntD, k7.get hqT (by simp) ntT, by decide, fun H8 k8 h8 => ?_⟩
      have q8 : Kx K [p, fd] H5 H8 := q7.trans k8 fun b z => .inl (by rw [List.mem_singleton.mp z]; simp)
      have nlf : l ≠ fd := fun z => by rw [z, hfdT] at l0; cases l0
      refine ⟨_, rfl, m, _, dxm, _, _, rfl, q8.get hm5 (iS hm5) ntI, clMaker T, naMaker_acts T, mf_acts .., ac, rfl, ⟨[], SqT.of (q8.get hac5 (tS hac5) ntT)⟩, forN (J := Itt K ac) ⟨[], SqT.of (q8.get hac5 (tS hac5) ntT), Nat.le_refl 0⟩ ?_⟩
      exact ⟨k8.get (k7.get hlT (by simp) ntF) (by simpa using npf) ntF, q8, l, h8, k8.get hl7 (by simpa using nlf) ntL⟩
    · rintro σ' H' ⟨hp', q7, l, hf', hl'⟩
      refine ⟨⟨hp', Nat.le_refl 1⟩, hp', fun H8 k8 h8 => ?_⟩
      have q8 : Kx K [p, fd] H5 H8 := q7.trans k8 fun b z => .inl (by rw [List.mem_singleton.mp z]; simp)
      have d8 : Kx K [fd] H5 H8 := q8.drop fun o' e => by rw [hp5] at e; cases e; exact h8
      have nl : l ≠ p := fun z => by rw [z, hp'] at hl'; cases hl'
      exact k _ (q5.trans d8 fun b z => .inr (by rw [List.mem_singleton.mp z]; exact ffd)) ⟨dx, p, cd, fd, l, q8.get h5 (iS h5) ntI, k8.get hf' (by simpa using Ne.symm npf) ntD, k8.get hl' (by simpa using nl) ntL⟩
theorem ok_made (T : Txt K mg) : FnOk Pg w K mg base CX0 3 (aActingMade K) (fdActingMade K) PActingMade (spMade K) := by
  refine (fActingMade T).ok0 scActingMade (fun vs H Q E h => ?_) (fun cdv A outer s H vs Q E hr h => ?_)
  · obtain ⟨_, _, _, _, rfl, _⟩ := h
    rfl
  · obtain ⟨a, p, ch, t, rfl, ⟨dx, pl, cd, fd, l, ha, hfd, hl⟩, hp, hch, ht, k⟩ := h
    refine ⟨_, pss_cons (ps_set (i := 4) scActingMade.nd rfl (Or.inl rfl) (pe_makeA (mkDoing T) (ok_doing T) hr rfl (gDoing T) (bDoingInit T) pass0 (pa_cons (pe_fld (pv 0) rfl) (pa_cons (pe_op op_cat0 (pv 2) (pe_tupA (pa_cons (pv 3) pa_nil))) pa_nil))))
      (pss_cons (ps_set (i := 5) scActingMade.nd rfl (Or.inl rfl) (pe_ix ix_list (pe_fld (pv 4) rfl) (pe_un un_neg pe_int) (fun _ _ => rfl)))
      (pss_cons (ps_for PassesOwn.never rfl (pi_list (pe_dget hr.u1 (pe_fld (pv 0) rfl) (pv 1) (fun _ _ => rfl))) pg_nv pss_nv)
      (pss_cons (ps_setLc (i := 7) (own := [("event", 8)]) (by rfl) scActingMade.nd rfl rfl (by rfl) (pi_list (pe_fld (pv 4) rfl)) (blkOk_by (N := NActingMade) (sc := defScope sActingMade) (by decide +kernel)) (fun _ _ _ _ _ => pg_nv) (fun _ _ _ _ _ => pts_nv) (fun _ _ _ _ _ => pe_nv))
      (pss_one (ps_ret (pe_tupA (pa_cons pe_non (pa_cons (pv 2) (pa_cons (pe_callTy cr_tup0 (by rfl) (nTuple T) (by decide +kernel) (pa_cons (pv 5) pa_nil)) (pa_cons (pe_callTy cr_tup0 (by rfl) (nTuple T) (by decide +kernel) (pa_cons (pv 7) pa_nil)) pa_nil)))))))))), ?_⟩
    refine ⟨_, rfl, a, _, dx, _, _, rfl, ha, clActing T, naActing_codes T, af_codes .., _, rfl, _, rfl, Nat.le_of_ble_eq_true rfl, fun t2 H1 k1 t20 ht2 => ?_⟩
    refine ⟨ch, t2, [.ref t], rfl, rfl, k1.get hch (by simp) ntT, ht2, Nat.le_of_ble_eq_true rfl, ?_⟩
    refine fun d dd H2 k2 d0 hd => ⟨d, dd, cd, t2, t, rfl, hd, k2.get ht2 (by simp) ntT, k2.get (k1.get ht (by simp) ntT) (by simp) ntT, fun H3 k3 dov => ⟨rfl, ?_⟩⟩
    have q3 : Kx K [] H H3 := (k1.then k2).trans k3 fun b z => .inr (by rw [List.mem_singleton.mp z]; exact k1.fresh d0)
    clear k1 k2 k3 t20 ht2 d0 hd
    obtain ⟨dxd, co, rows, ev, sk, wt, cdd, n, gv, plc, ll, hd3, hrows, hll, hev⟩ := dov
    have ha3 := q3.get ha (by simp) ntI
    have hl3 := q3.get hl (by simp) ntL
    refine ⟨_, rfl, d, _, dxd, _, _, rfl, hd3, clDoing T, naDoing_rows T, df_rows .., 1, rfl, rows, _, _, .ref ll, rfl, rfl, SqL.of hrows, rfl, ?_⟩
    refine ⟨_, rfl, a, _, dx, _, _, rfl, ha3, clActing T, naActing_firsts T, af_firsts .., _, rfl, fd, .ref l, rfl, DGet.t (k := []) (q3.get hfd (by simp) ntD) (q3.get hp (by simp) ntT), l, rfl, ⟨[], SqL.of hl3⟩, forN (J := Itl K l) ⟨[], SqL.of hl3, Nat.le_refl 0⟩ ?_⟩
    refine ⟨_, rfl, d, _, dxd, _, _, rfl, hd3, clDoing T, naDoing_events T, df_events .., ev, rfl, ⟨[], SqL.of hev⟩, ?_⟩
    refine lcN (K := K) (J := Itl K ev) fun e2 H4 k4 e20 he2 => ⟨⟨[], SqL.of (k4.get hev (by simp) ntL), Nat.le_refl 0⟩, ?_⟩
    refine ⟨_, rfl, _, rfl, ll, rfl, k4.get hll (by simp) ntL, fun o1 H5 k5 _ ho1 => ?_⟩
    refine ⟨_, rfl, e2, rfl, k5.get he2 (by simp) ntL, fun o2 H6 k6 _ ho2 => ⟨Nat.le_of_ble_eq_true rfl, fun r H7 k7 _ hr => ?_⟩⟩
    exact k _ r o1 o2 ((((q3.then k4).then k5).then k6).then k7) hr
theorem ok_walk (T : Txt K mg) : FnOk Pg w K mg base CX0 4 (aWalkInit K) (fdWalkInit K) PWalkInit (spWalk K) := by
  refine (fWalkInit T).ok0 scWalkInit (fun vs H Q E h => ?_) (fun cdv A outer s H vs Q E hr h => ?_)
  · obtain ⟨_, _, _, rfl, _⟩ := h
    rfl
  · obtain ⟨wk, p, dx, rfl, hw, pv0, k⟩ := h
    refine ⟨_, pss_cons (ps_fldA (pv 0) (pv 1) rfl)
      (pss_cons (ps_fldA (pv 0) (pe_makeA (mkActing T) (ok_acting T) (hr.mono (by decide)) rfl (gActing T) (bActingInit T) pass0 (pa_cons (pv 1) pa_nil)) rfl)
      (pss_cons (ps_fldA (pv 0) (pe_lstA (pa_cons (pe_tupA pa_nil) pa_nil)) rfl)
      (pss_cons (ps_fldA (pv 0) (pe_lstA (pa_cons (pe_ix ix_tup (pe_meth (pe_fld (pv 0) rfl) (clActing T) (meActing_made T) (ok_made T) hr (bActingMade T) .nil pass0 (pa_cons (pe_tupA pa_nil) (pa_cons (pe_tupA pa_nil) (pa_cons (pe_tupA pa_nil) pa_nil)))) pe_int (fun _ _ => rfl)) pa_nil)) rfl)
      (pss_one (ps_fldA (pv 0) (pe_lstA (pa_cons pe_non pa_nil)) rfl))))), ?_⟩
    refine ⟨_, rfl, _, rfl, wk, _, dx, _, rfl, hw, clWalk T, naWalk_plan T, by decide, fun H1 k1 h1 => ?_⟩
    have pv1 : PlanV K H1 p := by
      obtain ⟨m, hp, mkv⟩ := pv0
      refine ⟨m, k1.get hp (fun z => by rw [List.mem_singleton.mp z, hw] at hp; cases hp) ntD, mkv.keep k1 fun b z => ?_⟩
      rw [List.mem_singleton.mp z]
      refine ⟨fun y => ?_, fun xs e => by rw [hw] at e; cases e⟩
      obtain ⟨_, _, _, _, _, _, _, _, _, hm, _⟩ := mkv
      rw [← y] at hm
      have := Option.some.inj (hw.symm.trans hm)
      injection this with _ _ h
      cases h
    refine ⟨_, rfl, fun ac dxa H2 k2 a0 hac => ⟨ac, p, dxa, rfl, hac, pv1.keep0 k2, fun H3 k3 av => ⟨rfl, ?_⟩⟩⟩
    have kk13 : Kx K [] H1 H3 := k2.trans k3 fun b z => .inr (by rw [List.mem_singleton.mp z]; exact a0)
    have nac : ac ∉ [wk] := by simpa using Ne.symm (ne_of_none h1 a0)
    refine ⟨_, rfl, wk, _, dx, _, rfl, kk13.get h1 (by simp) ntI, clWalk T, naWalk_acting T, Nat.lt_of_le_of_lt (plen _ _ _ (Nat.le_refl 0)) (by decide), fun H4 k4 h4 => ?_⟩
    have q4 : Kx K [wk] H H4 := (k1.then kk13).trans k4 fun b z => .inl z
    have av4 : ActV K H4 ac := by
      obtain ⟨dxx, pl, cd, fd, l, e1, e2, e3⟩ := av
      have hw3 := kk13.get h1 (by simp) ntI
      exact ⟨dxx, pl, cd, fd, l, k4.get e1 nac ntI, k4.get e2 (fun z => by rw [List.mem_singleton.mp z, hw3] at e2; cases e2) ntD, k4.get e3 (fun z => by rw [List.mem_singleton.mp z, hw3] at e3; cases e3) ntL⟩
    refine ⟨by decide, fun e0 H5 k5 _ _ => ⟨Nat.le_of_ble_eq_true rfl, fun ps H6 k6 _ _ => ?_⟩⟩
    have k46 := k5.then k6
    refine ⟨_, rfl, wk, _, dx, _, rfl, k46.get h4 (by simp) ntI, clWalk T, naWalk_paths T, Nat.lt_of_le_of_lt (plen _ _ _ (plen _ _ _ (Nat.le_refl 0))) (by decide), fun H7 k7 h7 => ?_⟩
    have q7 : Kx K [wk] H H7 := (q4.then k46).trans k7 fun b z => .inl z
    have av7 : ActV K H7 ac := by
      obtain ⟨dxx, pl, cd, fd, l, e1, e2, e3⟩ := av4
      have hw3 := k46.get h4 (by simp) ntI
      have e1 := k46.get e1 (by simp) ntI
      have e2 := k46.get e2 (by simp) ntD
      have e3 := k46.get e3 (by simp) ntL
      exact ⟨dxx, pl, cd, fd, l, k7.get e1 nac ntI, k7.get e2 (fun z => by rw [List.mem_singleton.mp z, hw3] at e2; cases e2) ntD, k7.get e3 (fun z => by rw [List.mem_singleton.mp z, hw3] at e3; cases e3) ntL⟩
    obtain ⟨dxx, pl, cd, fd, l, hac7, e2, e3⟩ := id av7
    refine ⟨_, rfl, wk, _, dx, _, _, rfl, h7, clWalk T, naWalk_acting T, wk_acting .., ac, dxx, _, rfl, hac7, af_made0 .., ?_⟩
    refine ⟨by decide, fun t1 H8 k8 _ ht1 => ⟨by decide, fun t2 H9 k9 _ ht2 => ⟨by decide, fun t3 H10 k10 _ ht3 => ?_⟩⟩⟩
    have k710 := (k8.then k9).then k10
    refine ⟨ac, t1, t2, t3, rfl, ⟨dxx, pl, cd, fd, l, k710.get hac7 (by simp) ntI, k710.get e2 (by simp) ntD, k710.get e3 (by simp) ntL⟩, k10.get (k9.get ht1 (by simp) ntT) (by simp) ntT, k10.get ht2 (by simp) ntT, ht3, fun H11 r x y k11 hr => ?_⟩
    refine ⟨r, _, _, _, rfl, rfl, SqT.of hr, rfl, Nat.le_of_ble_eq_true rfl, fun rs H12 k12 _ _ => ?_⟩
    have k712 := (k710.then k11).then k12
    refine ⟨_, rfl, wk, _, dx, _, rfl, k712.get h7 (by simp) ntI, clWalk T, naWalk_rows T, Nat.lt_of_le_of_lt (plen _ _ _ (plen _ _ _ (plen _ _ _ (Nat.le_refl 0)))) (by decide), fun H13 k13 h13 => ?_⟩
    have q13 : Kx K [wk] H H13 := (q7.then k712).trans k13 fun b z => .inl z
    refine ⟨Nat.le_of_ble_eq_true rfl, fun ab H14 k14 _ _ => ?_⟩
    refine ⟨_, rfl, wk, _, dx, _, rfl, k14.get h13 (by simp) ntI, clWalk T, naWalk_aboves T, Nat.lt_of_le_of_lt (plen _ _ _ (plen _ _ _ (plen _ _ _ (plen _ _ _ (Nat.le_refl 0))))) (by decide), fun H15 k15 h15 => ?_⟩
    exact k _ ((q13.then k14).trans k15 fun b z => .inl z)
theorem ok_checked (T : Txt K mg) (C : Cd K mg base) : FnOk Pg w K mg base (L2N.CX Pg w) 15 (aChecked K) (fdChecked K) PChecked (spChecked K) := by
  refine (fChecked T).okX scChecked (fun vs H Q E h => ?_) (fun cdv A outer s H vs Q E hr h => ?_)
  · obtain ⟨_, _, _, _, _, rfl, _⟩ := h
    rfl
  · obtain ⟨v, l, n, x, e, rfl, pv0, tb, hl, he, bad⟩ := h
    refine ⟨_, pss_cons (ps_expr (pe_call (ok_sound T C) (hr.mono (by decide)) rfl (gSound T) (fSound T).kp (bSound T) .nil pass0 (pa_cons (pv 0) pa_nil)))
      (pss_cons (ps_set (i := 2) scChecked.nd rfl (Or.inl rfl) (pe_makeA (mkWalk T) (ok_walk T) (hr.mono (by decide)) rfl (gWalk T) (bWalkInit T) pass0 (pa_cons (pe_call (ok_layout T C) (hr.mono (by decide)) rfl (gLayout T) (fLayout T).kp (bLayout T) .nil pass0 (pa_cons (pv 0) pa_nil)) pa_nil)))
      (pss_cons (ps_for (passes_of rfl) rfl (pi_list (pe_call (ok_told T) (hr.mono (by decide)) rfl (gToldLines T) (fToldLines T).kp (bToldLines T) .nil passX (pa_cons (pv 1) pa_nil))) pg_nv pss_nv)
      (pss_one ps_nv))), ?_⟩
    refine ⟨_, rfl, v, rfl, pv0, tb, fun H1 k1 => ?_⟩
    refine ⟨_, rfl, v, rfl, pv0.keep0 k1, k1.tb tb, fun H2 p k2 pv2 => fun wk dx H3 k3 w0 hw => ⟨wk, p, dx, rfl, hw, pv2.keep0 k3, fun H4 k4 => ⟨rfl, ?_⟩⟩⟩
    refine ⟨_, rfl, l, rfl, hl, k4.tb (k3.tb (k2.tb (k1.tb tb))), fun ys ey => ?_, fun n' x' e' he' => ?_⟩
    · rw [he] at ey
      cases ey
    · rw [he] at he'
      cases he'
      exact bad
end
end K29
end

section
set_option Elab.async false
set_option linter.all false
set_option maxRecDepth 100000
set_option maxHeartbeats 0
/-! The law holds. -/
namespace K29
open PySem PySem.Spec PyProof.Rows L2 XT L2G
theorem at_law {w : World} {mg : Str → Option Value} {fa : Addr} {h : Heap} {K : PySem.W.Frag} (X : K.In h) (G : h.Ns mainGlobals mg) (hfa : mg ("law" : Str) = some (.ref fa)) (c : XH.SaysM Pg Fz K) (t : XH.TabsOk tf h K) {n : Nat} (hn : n ≤ 1000000) :
    LamX.LawAtS PySem.Challenge.rw_outlived_k29_transcripts_that_are_none w K (L2N.CX Pg w) 17 n "script" mg fa h := by
  have T : Txt K mg := ⟨c, h, X, G⟩
  have e := hfa.symm.trans (gLaw T)
  cases e
  have b := FunD.bindsA (ps := ["script"]) (fLaw T) fun _ _ _ _ _ _ us hl => match us, hl with | [_], _ => rfl
  refine ⟨fdLaw K, tf.map (He.cT K), spLaw K, fun p hp => ?_, fun p hp => ?_, fun p hp => ?_, fun s v => b s [v] rfl, fun H a ns hl _ hT hS => ?_, fun base hb gb hcs => ?_⟩
  · obtain ⟨q, hq, rfl⟩ := List.mem_map.mp hp
    exact t.empty q hq
  · obtain ⟨q, hq, rfl⟩ := List.mem_map.mp hp
    exact t.out q hq
  · obtain ⟨q, hq, rfl⟩ := List.mem_map.mp hp
    exact PySem.W.codeHd_of_K X (t.hd q hq)
  · refine ⟨a, ns, rfl, hS, Nat.le_trans hl hn, fun P hP => ?_, fun _ => rfl⟩
    refine ⟨#[], ?_, (by trivial)⟩
    have m : ∃ p ∈ tf.map (He.cT K), p.2 = P := by
      rcases List.mem_cons.mp hP with z | z
      · exact ⟨_, List.mem_cons_self, z.symm⟩
      · rcases List.mem_cons.mp z with z | z
        · exact ⟨_, List.mem_cons_of_mem _ List.mem_cons_self, z.symm⟩
        · cases z
    obtain ⟨p, hp, rfl⟩ := m
    exact hT p hp
  · have Tb' : Txt K mg := ⟨c, base, hb, gb⟩
    have z1 := hcs (He.cT K ("Names", some "path_of")) List.mem_cons_self
    have z2 := hcs (He.cT K ("Maker", some "__init__")) (List.mem_cons_of_mem _ List.mem_cons_self)
    exact ok_law Tb' (ok_checked Tb' ⟨⟨z1.code, z1.bm, z1.gP⟩, ⟨z2.code, z2.bm, z2.gP⟩⟩)
end K29
open PySem PySem.W PySem.Calls PyProof.Rows
theorem PySem.Challenge.cw_outlived_k29_transcripts_that_are_none_holds : PySem.Challenge.rw_outlived_k29_transcripts_that_are_none.Holds := by
  w_on; o_law
  refine HandSHeadRun.head_any (r := OpenLaw.row PySem.Challenge.rw_outlived_k29_transcripts_that_are_none) (q := view (OpenLaw.row PySem.Challenge.rw_outlived_k29_transcripts_that_are_none).prog [65]) (H := K29.hk) (ob := K29.ob) (M := 6000) (loose := K29.loose) (d := HandSHeadRun.topDef (OpenLaw.row PySem.Challenge.rw_outlived_k29_transcripts_that_are_none).prog 65) (kwd := []) K29.ob_eq
    (by kernel_rfl) (fun s => by kernel_rfl) K29.run (by kernel_rfl) (by kernel_rfl) (by kernel_rfl) (by rfl) (by first | assumption | decide +kernel) (by decide +kernel) ⟨rfl, rfl, rfl, rfl, rfl, by decide +kernel⟩ ?hw ?hc
  case hw => w_witness2
  case hc =>
    refine LamX.walk_ofTsE (l := PySem.Challenge.rw_outlived_k29_transcripts_that_are_none) (n := 63) (k := 17) (x := "script") (CX := fun w => L2N.CX K29.Pg w) rfl (by decide) (by kernel_rfl) ⟨rfl, by decide, by decide⟩ ?F (fun w H s e s' z => ?E)
    case E =>
      obtain ⟨_, _, _, _, _, _, _, _, _, _, _, _, z⟩ := z
      exact z.elim
    case F =>
      intro w mg fa h Y G hmg0
      obtain ⟨K, KX, c, t⟩ := Y
      have hmg : mg ("law" : PySem.Str) = some (.ref fa) := by
        have e : (HandSHeadRun.topDef (OpenLaw.row PySem.Challenge.rw_outlived_k29_transcripts_that_are_none).prog 65).name = ("law" : PySem.Str) := by kernel_rfl
        rw [← e]
        exact hmg0
      exact ⟨K, KX, K29.at_law KX G hmg c t (by decide)⟩
end
