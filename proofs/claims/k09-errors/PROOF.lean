import PyProof.Rows.All
import Wide.All
import OpenK.AllK
import Wide.FinOn
import PyProof.EqAt
import PyProof.EqKinds
import PyProof.TupleCall
import KE.KExcSuper
import HandS.ForMost
import HandS.Exc
import HandS.ExcInit
import KE.KExcIs
import HandS.ExcIs
import HandS.TryOnly
import HandS.Flow
import HandS.IsInst
import HandS.Codes
import HandS.Deep
import HandS.Comp
import HandS.WordsExc
import KE.RegKSuper
import PySem.Challenge.RW_scanladder_k09_errors
set_option Elab.async false
set_option linter.all false
set_option maxRecDepth 100000
set_option maxHeartbeats 4000000
/-! The errors of the package: class X(LadderError) whose __init__ says super().__init__(f, ..); self.f = f. -/
namespace PySem
namespace LadX
open PySem.W PySem.Calls PyProof.Rows PySem.HandSPX
def arg0 (x : Str) (p : Pos) : Arg := { arg := x, annotation := none, pos := p }
def iA1 (f : Str) (p1 p2 : Pos) : Arguments := { posonlyargs := [], args := [{ arg := "self", annotation := none, pos := p1 }, { arg := f, annotation := none, pos := p2 }], vararg := none, kwonlyargs := [], kw_defaults := [], kwarg := none, defaults := [] }
def iB1 (f : Str) (q1 q2 q3 q4 q5 q6 r1 r2 r3 r4 : Pos) : List Stmt := [.Expr (.Call (.Attribute (.Call (.Name "super" q1) [] [] q2) "__init__" q3) [.Name f q4] [] q5) q6, .Assign [.Attribute (.Name "self" r1) f r2] (.Name f r3) r4]
def iS1 (f : Str) : Scope := { kind := .function, names := [(PySem.Str.ofString "self", .local), (f, .local), (PySem.Str.ofString "__class__", .free), (PySem.Str.ofString "super", .globalImplicit)], isGenerator := false, isCoroutine := false, more := [] }
structure Nice (f : Str) : Prop where
  sup : (iS1 f).names.lookup ("super" : Str) = some .globalImplicit
  cls : (iS1 f).names.lookup ("__class__" : Str) = some .free
  own : (iS1 f).names.lookup f = some .local
  dbg : (f == ("__debug__" : Str)) = false
  nse : f ≠ ("self" : Str)
  cel : ∀ x ∈ (iS1 f).names, x.2 ≠ .cell
  bind : ∀ (qual : Str) (p1 p2 : Pos) (body : List Stmt) (dV kV doc pm : Value) (an : Option Addr) (cdv ct : Value) (cc : Addr) (e v : Value), bindArgs (ksFn "__init__" qual (iA1 f p1 p2) body (iS1 f) .none .none doc pm an cdv ct cc) ⟨[e, v], []⟩ = pure [(("self" : Str), e), (f, v)]
  bindK : ∀ (qual : Str) (p1 p2 : Pos) (body : List Stmt) (dV kV doc pm : Value) (an : Option Addr) (cdv ct : Value) (cc : Addr) (e v : Value), bindArgs (ksFn "__init__" qual (iA1 f p1 p2) body (iS1 f) .none .none doc pm an cdv ct cc) ⟨[e], [(f, v)]⟩ = pure [(("self" : Str), e), (f, v)]
theorem nice_value : Nice "value" := ⟨rfl, rfl, rfl, rfl, by decide +kernel, by decide +kernel, fun _ _ _ _ _ _ _ _ _ _ _ _ _ _ => rfl, fun _ _ _ _ _ _ _ _ _ _ _ _ _ _ => rfl⟩
theorem nice_index : Nice "index" := ⟨rfl, rfl, rfl, rfl, by decide +kernel, by decide +kernel, fun _ _ _ _ _ _ _ _ _ _ _ _ _ _ => rfl, fun _ _ _ _ _ _ _ _ _ _ _ _ _ _ => rfl⟩
theorem nice_line : Nice "line" := ⟨rfl, rfl, rfl, rfl, by decide +kernel, by decide +kernel, fun _ _ _ _ _ _ _ _ _ _ _ _ _ _ => rfl, fun _ _ _ _ _ _ _ _ _ _ _ _ _ _ => rfl⟩
theorem nice_limit : Nice "limit" := ⟨rfl, rfl, rfl, rfl, by decide +kernel, by decide +kernel, fun _ _ _ _ _ _ _ _ _ _ _ _ _ _ => rfl, fun _ _ _ _ _ _ _ _ _ _ _ _ _ _ => rfl⟩
/-- what the written part says of the class at C named x, whose __init__ stands at fI and has the field f -/
structure ErrTxt (prog : Program) (K : Frag) (mg : Str → Option Value) (x f : Str) (C fI : Addr) : Prop where
  nice : Nice f
  gC : mg x = some (.ref C)
  gS : mg "super" = none
  cls : ∃ nm q N bs bm sn sub ab col dd k0 k1 k2 k3 k5, K.lookup C = some (excClassObj nm q C N bs bm true sn sub ab col dd k0 k1 k2 k3 k5 "ValueError.__new__") ∧ refsVE bm = true ∧ alongIn K "__init__" bm = some (some (.builtin "ValueError.__init__"))
  opq : nsIn K cStatics "thirdparty.any" = some none
  sa : findIn K (.ref C) "__setattr__" = some (some (.builtin "object.__setattr__"))
  ga : findIn K (.ref C) "__getattribute__" = some (some (.builtin "BaseException.__getattribute__"))
  gg : findIn K (.ref C) "__getattr__" = some none
  noN : findIn K (.ref C) f = some none
  iC : findIn K (.ref C) "__init__" = some (some (.ref fI))
  tC : typeIn K (.ref fI) = some (.type "function")
  kC : keepIn K (.ref C) = true
  exC : subIn K (.ref C) (.type "BaseException") = some true
  veC : subIn K (.ref C) (.type "ValueError") = some true
  seC : mroIn K C (.ref C) = some true
  tyC : typeIn K (.ref C) = some (.type "type")
  hdC : hasDictIn K C = true
  top : (prog.main.scope.names.lookup ("super" : Str)).isSome = false
  fn : ∃ (qual : Str) (oc : Value) (od : Option Addr) (doc pm : Value) (an : Option Addr) (cda cc : Addr) (ct : Value) (osl : Array (Option Value)) (p1 p2 q1 q2 q3 q4 q5 q6 r1 r2 r3 r4 : Pos) (vs : Array Value) (file : Str) (tf : Tok) (ccl cl : Value) (cdd cld : Option Addr) (ccs csl : Array (Option Value)),
    K.lookup fI = some ⟨oc, od, .func (ksFn "__init__" qual (iA1 f p1 p2) (iB1 f q1 q2 q3 q4 q5 q6 r1 r2 r3 r4) (iS1 f) .none .none doc pm an (.ref cda) ct cc), osl⟩ ∧ (q3.endLine == q5.line) = true ∧ codeIn K (.ref cda) qual = true ∧
    K.lookup cda = some ⟨ccl, cdd, .fields vs, ccs⟩ ∧ vs[2]? = some (.str file tf) ∧ ((prog.main.file : Str) == file) = true ∧ K.lookup cc = some ⟨cl, cld, .cell (some (.ref C)), csl⟩

section
variable {prog : Program} {w : World} {A : Around} {E : Value → Shared → Prop} {R : Result → Shared → Prop} {s : Shared} {K : Frag} {mg mb : Str → Option Value} {x f : Str} {C fI : Addr}
section
variable {h : Heap} {g : Array GenState} {d : Drawn} {t : Nat} {os : OsState} {nm q : Str} {N : Addr} {bs bm : List Value} {hdct : Bool} {sn : List Str} {sub : List Value} {ab : Bool} {col : Option Bool} {dd : Option Addr} {k0 k1 k2 k3 k5 : Option Value}
theorem call_mw {u e t0 : Addr} {rest : List Value} {Q : Value → Shared → Prop}
    (hC : h.get? C = some (excClassObj nm q C N bs bm hdct sn sub ab col dd k0 k1 k2 k3 k5 "ValueError.__new__")) (he : h.get? e = some (excO C t0)) (hu : h.get? u = some (kxs_mw "ValueError.__init__" e)) (hrest : rest.length ≤ sizeLine)
    (hq : ∀ h' t1, (∀ b o, b ≠ e → h.get? b = some o → h'.get? b = some o) → h'.get? e = some (excO C t1) → Q .none ⟨h', g, d, t, os⟩) :
    wpAny (model prog w) A (call (.ref u) rest) Q E ⟨h, g, d, t, os⟩ := by
  refine wpAny_call (codeAny_of_tree ?_)
  show wpAny _ A.in1 (callAny (.ref u) ⟨rest, []⟩) _ _ _
  simp only [callAny]
  refine wpAny_bind (wpAny_load hu ?_)
  simp only [kxs_mw, show (Value.type "method-wrapper" == Value.type "method" || Value.type "method-wrapper" == Value.type "builtin_function_or_method" || Value.type "method-wrapper" == Value.type "method-wrapper") = true by decide, if_true]
  refine KFB.if_so (by decide) ?_
  refine wpAny_bind (check_bound_init F.excBase_ValueError.toExcCallFacts hC he rfl ?_)
  refine wpAny_bind (wpAny_pure (wpAny_pure ?_))
  refine ⟨plainId_quiet F.excBase_ValueError.init.plain _, codeAny_builtin F.excBase_ValueError.initEntry ?_⟩
  exact exc_init_tree (cls := .ref C) (t0 := t0) (dv := none) (c2 := .none) (c3 := .none) (b4 := .bool false) he hrest fun h' k e' t' => hq h' _ k e'
end
/-- super() in the frame at L -/
theorem super_obj {qual : Str} {sc : Scope} {L cda cc e t0 : Addr} {body : List Stmt} {m : Str → Option Value} {p0 p1 : Pos} {whole : Sem Value} {fd : FuncData} {ar : Arg} {vs : Array Value} {file : Str} {tf : Tok} {oc ccl cl : Value} {od cdd cld : Option Addr} {osl ccs csl : Array (Option Value)} {cdD : ClassData} {Q : Value → Shared → Prop}
    (X : K.In s.heap) (hG : s.heap.Ns mainGlobals mg) (hB : s.heap.Ns builtinsNs mb) (hgS : mg "super" = none) (hbS : mb "super" = some (.type "super")) (hn : s.heap.Ns L m)
    (hf : K.lookup fI = some ⟨oc, od, .func fd, osl⟩) (hp : (fd.params.posonlyargs ++ fd.params.args).head? = some ar) (hv : m ar.arg = some (.ref e)) (hx : s.heap.get? e = some (excO C t0))
    (hcode : K.lookup cda = some ⟨ccl, cdd, .fields vs, ccs⟩) (hvs : vs[2]? = some (.str file tf)) (hfile : ((prog.main.file : Str) == file) = true)
    (hcell : K.lookup cc = some ⟨cl, cld, .cell (some (.ref C)), csl⟩) (hD : clsIn K C = some cdD) (hsub : mroIn K C (.ref C) = some true)
    (hks : sc.names.lookup ("super" : Str) = some .globalImplicit) (hkc : sc.names.lookup ("__class__" : Str) = some .free) (hka : sc.names.lookup ar.arg = some .local) (hk : sc.kind = .function)
    (htop : (prog.main.scope.names.lookup ("super" : Str)).isSome = false)
    (h : ∀ h', h'.get? s.heap.objs.size = some (ks_superObj C e C) → (∀ y o, s.heap.get? y = some o → h'.get? y = some o) → Q (.ref s.heap.objs.size) { s with heap := h' }) :
    _root_.PySem.wpAt (model prog w) A (.func body (ksEnv qual sc L fI (.ref cda) cc)) (attributeBase (.Call (.Name "super" p0) [] [] p1) "__init__" (ksEnv qual sc L fI (.ref cda) cc) whole) Q E s := by
  obtain ⟨hh, g, d, t, os⟩ := s
  obtain ⟨oD, hD1, hD2⟩ : ∃ oD, hh.get? C = some oD ∧ oD.data = .cls cdD := by
    unfold clsIn at hD
    split at hD
    · rename_i c d cd' sl ho
      cases hD
      exact ⟨_, X _ _ ho, rfl⟩
    · cases hD
  refine ks_wpAt_super_base (env := ksEnv qual sc L fI (.ref cda) cc) hks hkc (by decide) rfl (X _ _ hf) rfl hp rfl (X _ _ hcode) rfl hvs hfile htop ?_
  refine ks_loadName_global hk hks (loadGlobal_builtin (env := ksEnv qual sc L fI (.ref cda) cc) hG hgS hB hbS ⟨rfl, ?_⟩)
  refine wpAny_loadName_free hk hkc rfl ⟨_, X _ _ hcell, rfl⟩ ?_
  refine wpAny_loadName_local hk hka hn hv ?_
  refine ks_wpAny_isType_cls hD1 hD2 ⟨rfl, ?_⟩
  exact ks_wpAny_call_super hD1 hD2 hx rfl (fun c e => by cases e) (looks_mroIn X hsub) h

/-- what __init__ leaves of a fresh exception at x -/
structure InitEnd (f : Str) (h h' : Heap) (x C dx t1 : Addr) (v : Value) : Prop where
  keep : ∀ b o, b ≠ x → h.get? b = some o → h'.get? b = some o
  obj : h'.get? x = some { cls := .ref C, dict := some dx, data := .fields #[.ref t1, .none, .none, .none, .bool false, .none] }
  dbig : h.objs.size ≤ dx
  dne : dx ≠ x
  ns : h'.Ns1 dx (fun y => if y = f then some v else none)
structure OwnMade (f : Str) (h h' : Heap) (e C d : Addr) (v : Value) : Prop where
  keep : ∀ b o, h.get? b = some o → h'.get? b = some o
  new : h.objs.size ≤ e
  obj : ∃ oe vs, h'.get? e = some oe ∧ oe.cls = .ref C ∧ oe.dict = some d ∧ oe.data = .fields vs ∧ vs[1]? = some .none
  dbig : h.objs.size ≤ d
  dne : d ≠ e
  ns : h'.Ns1 d (fun y => if y = f then some v else none)
theorem kept_but {h h' : Heap} {x : Addr} (X : K.In h) (hx : K.lookup x = none) (k : ∀ b o, b ≠ x → h.get? b = some o → h'.get? b = some o) : K.In h' := fun a o e =>
  k a o (fun z => by rw [z, hx] at e; cases e) (X a o e)
theorem ld {M : Model} {env : Env} {L : Addr} {m : Str → Option Value} {y : Str} {pos : Pos} {v : Value} {Q : Value → Shared → Prop} (hn : s.heap.Ns L m) (hL : env.locals = L) (hv : m y = some v) (h : Q v s)
    (hk : env.scope.kind = .function) (hl : env.kindOf y = some .local) (hd : (y == ("__debug__" : Str)) = false) :
    wpAny M A (eval (.Name y pos) env) Q E s := by
  subst hL
  exact wpAny_Name (wpAny_loadName_local hk hl hn hv h) hd
theorem eval_meth {env : Env} {o a : Expr} {as : List Expr} {name : Str} {apos pos : Pos} (hln : (apos.endLine == pos.line) = true) (hf : methodCallForm ((a :: as).length + 0) (backTo pos (starEach (a :: as) env)) [] = true := by rfl) :
    eval (.Call (.Attribute o name apos) (a :: as) [] pos) env = (do
      let ov ← attributeBase o name env (eval o env)
      standAt apos.atName
      let (f, first) ← holding [ov] (getMethod ov name (do return (← importBound o env).getD true))
      callWith pos f first (backTo pos (starEach (a :: as) env)) []) := by
  show (do
    let ov ← attributeBase o name env (eval o env)
    standAt apos.atName
    methodCall o name apos pos env ov ((a :: as).length + 0) (backTo pos (starEach (a :: as) env)) []) = _
  unfold methodCall
  simp only [hf, calleeOf, methodCallPos, Bool.not_true, Bool.false_or, hln, if_true, pure_bind]
theorem drop_own (C : Addr) (l : List Value) : ((Value.ref C :: l).dropWhile (· != .ref C)).drop 1 = l := by
  simp [List.dropWhile_cons]
theorem one_size (v : Value) : [v].length ≤ sizeLine := by
  rw [sizeLine_eq]
  exact (by decide : 1 ≤ 16777216)

theorem err_init (T : ErrTxt prog K mg x f C fI) {e t0 : Addr} {v : Value} (X : K.In s.heap) (hG : s.heap.Ns mainGlobals mg) (hB : s.heap.Ns builtinsNs mb) (hbS : mb "super" = some (.type "super")) (hlim : s.heap.NoLimit)
    (hx : s.heap.get? e = some (excO C t0)) (hnx : K.lookup e = none) (hroom : A.depth < recursionLimit) {args : Args} (ha : args = ⟨[.ref e, v], []⟩ ∨ args = ⟨[.ref e], [(f, v)]⟩)
    (hq : ∀ h' tk dx t1, InitEnd f s.heap h' e C dx t1 v → R (.ok (.ret .none)) { s with heap := h', toks := tk }) :
    codeAny (model prog w) A (.call (.ref fI) args) R s := by
  obtain ⟨qual, oc, od, doc, pm, an, cda, cc, ct, osl, p1, p2, q1, q2, q3, q4, q5, q6, r1, r2, r3, r4, vs, file, tf, ccl, cl, cdd, cld, ccs, csl, ho, hln, hcd, hcda, hvs, hfile, hcc⟩ := T.fn
  obtain ⟨nm, q, N, bs, bm, sn, sub, ab, col, dd, k0, k1, k2, k3, k5, hC, hbm, hal⟩ := T.cls
  have hcl : clsIn K C = some { name := nm, bases := bs, mro := .ref C :: bm, ns := N, qualname := q, hasDict := true, slotNames := sn, subclasses := sub, abstract := ab, collection := col, hasDel := false } := by unfold clsIn; rw [hC] <;> rfl
  refine ks_codeAny_call_defAt (fd := ksFn "__init__" qual (iA1 f p1 p2) (iB1 f q1 q2 q3 q4 q5 q6 r1 r2 r3 r4) (iS1 f) .none .none doc pm an (.ref cda) ct cc) (body := iB1 f q1 q2 q3 q4 q5 q6 r1 r2 r3 r4) (binds := [("self", .ref e), (f, v)]) hroom (X _ _ ho) rfl hlim (codeRec_of X hcd) rfl (BindsTo.of_eq (by
      rcases ha with rfl | rfl
      · exact T.nice.bind _ _ _ _ .none .none _ _ _ _ _ _ _ _
      · exact T.nice.bindK _ _ _ _ .none .none _ _ _ _ _ _ _ _)) T.nice.cel ?_ (fun h₁ hn k => ?_)
  · intro y hy
    rcases List.mem_cons.mp hy with rfl | hy
    · rfl
    · rcases List.mem_cons.mp hy with rfl | hy
      · exact T.nice.own
      · cases hy
  have X₁ : K.In h₁ := X.keeps k
  have hx₁ := k _ _ hx
  have lt : e < s.heap.objs.size := Heap.lt_size hx
  have hself : (fun y => List.lookup y (List.reverse [(("self" : Str), Value.ref e), (f, v)])) "self" = some (.ref e) := by
    show List.lookup ("self" : Str) [(f, v), (("self" : Str), Value.ref e)] = some (.ref e)
    have z : (("self" : Str) == f) = false := by simpa using (Ne.symm T.nice.nse)
    rw [List.lookup_cons, z]
    simp [List.lookup]
  have hf : (fun y => List.lookup y (List.reverse [(("self" : Str), Value.ref e), (f, v)])) f = some v := by
    show List.lookup f [(f, v), (("self" : Str), Value.ref e)] = some v
    simp [List.lookup]
  show _root_.PySem.wpAt _ _ _ (execs (.Expr (.Call (.Attribute (.Call (.Name "super" q1) [] [] q2) "__init__" q3) [.Name f q4] [] q5) q6 :: _) _) _ _ _
  refine ks_wpAt_execs_cons (ks_wpAt_Expr_any (ks_wpAt_MethodCall ?_ (eval_meth hln)))
  refine super_obj (s := { s with heap := h₁, toks := _ }) X₁ (hG.keeps k) (hB.keeps k) T.gS hbS hn ho rfl hself hx₁ hcda hvs hfile hcc hcl T.seC T.nice.sup T.nice.cls rfl rfl T.top (fun h₂ hso k₂ => ?_)
  -- super().__init__
  have k02 : ∀ b o, s.heap.get? b = some o → h₂.get? b = some o := fun b o e => k₂ b o (k b o e)
  have X₂ : K.In h₂ := X.keeps k02
  have hx₂ := k02 _ _ hx
  have sz1 : s.heap.objs.size < h₁.objs.size := hn.lt
  have hI : Looks (model prog w) h₂ (isInstance (.ref e) (.type "ValueError")) true := by
    have I : InstAt h₂ e (excO C t0) C none := ⟨hx₂, rfl, rfl, trivial⟩
    exact I.type.andThen (looks_subIn X₂ T.veC)
  have hmro : Looks (model prog w) h₂ (mroOf (.ref C)) (.ref C :: bm) := fun A Q E s k q => wpAny_bind ((looks_clsIn X₂ hcl) A _ E s k (wpAny_pure q))
  have hne : e ≠ C := fun z => by
    rw [z, X _ _ hC] at hx
    cases hx
  refine kxs_getMethod kxs_ValueError hso (looks_opaque X₂ T.opq) hmro (show _ = bm from drop_own C bm) X₂ hal hI hne (by decide) ?_
  have hn₂ : h₂.Ns s.heap.objs.size (fun y => List.lookup y (List.reverse [(("self" : Str), Value.ref e), (f, v)])) := hn.keeps k₂
  show wpAny _ _ (callWith q5 (.ref h₂.objs.size) [] (backTo q5 (starEach [.Name f q4] _)) []) _ _ _
  have kp : ∀ b o, h₂.get? b = some o → (h₂.push (kxs_mw "ValueError.__init__" e)).get? b = some o := fun b o z => Heap.get?_push_of_some _ z
  refine kxs_callWith (i := "ValueError.__init__") (x := e) rfl (evalArgs_plain ?_)
  refine Calls.spliced_cons (ld (hn₂.keeps kp) rfl hf ?_ rfl T.nice.own T.nice.dbg)
  refine Calls.spliced_nil ?_
  refine ⟨Heap.get?_push_size _ rfl, ?_⟩
  refine call_mw (kp _ _ (X₂ _ _ hC)) (kp _ _ hx₂) (Heap.get?_push_size _ rfl) (one_size v) (fun h₃ t1 k₃ hx₃ => ?_)
  -- self.f = f
  have k23 : ∀ b o, b ≠ e → h₂.get? b = some o → h₃.get? b = some o := fun b o hb z => k₃ b o hb (kp b o z)
  have X₃ : K.In h₃ := kept_but X₂ hnx k23
  have hn₃ : h₃.Ns s.heap.objs.size (fun y => List.lookup y (List.reverse [(("self" : Str), Value.ref e), (f, v)])) := by
    obtain ⟨o, es, ep, e1, r⟩ := hn₂
    exact ⟨o, es, ep, k23 _ _ (Nat.ne_of_gt lt) e1, r⟩
  show _root_.PySem.wpAt _ _ _ (execs [.Assign [.Attribute (.Name "self" r1) f r2] (.Name f r3) r4] _) _ _ _
  refine ks_wpAt_execs_cons (ks_wpAt_Assign_Attr (wpAt_of_wpAny ?_))
  refine ld hn₃ rfl hf (ld hn₃ rfl hself ?_ rfl rfl rfl) rfl T.nice.own T.nice.dbg
  refine set_plain X₃ (ox := excO C t1) (od := none) ⟨hx₃, rfl, rfl, trivial⟩ T.sa ?_
  refine exc_osa X₃ hx₃ hcl (show refsVE (.ref C :: bm) = true from hbm) rfl T.noN (fun h₄ tk₄ dx k₄ dn dne hx₄ hn₄ => ?_)
  show _root_.PySem.wpAt _ _ _ (execs [] _) _ _ _
  refine wpAt_of_wpAny (wpAny_execs_nil (hq h₄ tk₄ dx t1 ⟨fun b o hb z => k₄ b o hb (k23 b o hb (k02 b o z)), hx₄, ?_, dne, hn₄⟩))
  have l3 : s.heap.objs.size < h₃.objs.size := hn₃.lt
  exact Nat.le_of_lt (Nat.lt_of_lt_of_le l3 dn)
/-- X(v) -/
theorem err_made (T : ErrTxt prog K mg x f C fI) {v : Value} (X : K.In s.heap) (hG : s.heap.Ns mainGlobals mg) (hB : s.heap.Ns builtinsNs mb) (hbS : mb "super" = some (.type "super")) (hlim : s.heap.NoLimit) (hroom : A.depth + 1 < recursionLimit)
    (hq : ∀ h' tk e d, OwnMade f s.heap h' e C d v → R (.ok (.ret (.ref e))) { s with heap := h', toks := tk }) :
    codeAny (model prog w) A (.call (.ref C) ⟨[v], []⟩) R s := by
  obtain ⟨nm, q, N, bs, bm, sn, sub, ab, col, dd, k0, k1, k2, k3, k5, hC, hbm, _⟩ := T.cls
  obtain ⟨hp, g, dr, tk, os⟩ := s
  have k : ∀ b o, hp.get? b = some o → ((hp.push (kdv_tup [v])).push (excO C hp.objs.size)).get? b = some o := fun b o e => Heap.get?_push_of_some _ (Heap.get?_push_of_some _ e)
  have hget : ((hp.push (kdv_tup [v])).push (excO C hp.objs.size)).get? (hp.objs.size + 1) = some (excO C hp.objs.size) := by heap_get
  have hnx : K.lookup (hp.objs.size + 1) = none := by
    cases e : K.lookup (hp.objs.size + 1) with
    | none => rfl
    | some o =>
      have z : hp.get? (hp.objs.size + 1) = some o := X _ _ e
      exact absurd (Nat.lt_of_succ_lt (Heap.lt_size z)) (Nat.lt_irrefl _)
  refine call_own F.excBase_ValueError (fun X => refsVE_contains X bm hbm) (X _ _ hC) (looks_findIn X T.iC) (fun self => bind_fn X self T.tC) (one_size v) ?_
  refine err_init (s := ⟨(hp.push (kdv_tup [v])).push (excO C hp.objs.size), g, dr, tk, os⟩) (mb := mb) T (X.keeps k) (hG.keeps k) (hB.keeps k) hbS (hlim.keeps k) hget hnx ?_ (.inl rfl) fun h' tk' dx t1 ⟨k', hx, dn, dne, hns⟩ => ?_
  · show A.depth + 1 < recursionLimit
    exact hroom
  · have old : ∀ b o, hp.get? b = some o → h'.get? b = some o := fun b o e => k' b o (Nat.ne_of_lt (Nat.lt_succ_of_lt (Heap.lt_size e))) (k b o e)
    have z : hp.objs.size + 1 + 1 ≤ dx := by
      first
        | (simpa only [Heap.size_push] using dn)
        | exact dn
        | (have q := dn; rw [Heap.size_push, Heap.size_push] at q; exact q)
    exact ⟨rfl, hq h' tk' (hp.objs.size + 1) dx ⟨old, Nat.le_succ _, ⟨_, _, hx, rfl, rfl, rfl, rfl⟩, Nat.le_trans (Nat.le_trans (Nat.le_succ _) (Nat.le_succ _)) z, dne, hns⟩⟩
end
end LadX
end PySem
namespace L2
open PySem PySem.Spec PyProof.Rows
theorem relO_err {f : Str} {v : V} {v' : Value} (r : RelV v v') (g : Str) : RelO (List.lookup g [(f, v)]) (if g = f then some v' else none) := by
  by_cases hw : g = f
  · subst hw
    rw [if_pos rfl]
    have q : List.lookup g [(g, v)] = some v := by simp [List.lookup]
    rw [q]
    exact r
  · rw [if_neg hw]
    have qw : (g == f) = false := by simpa using hw
    have q2 : List.lookup g [(f, v)] = none := by simp [List.lookup, qw]
    rw [q2]
    trivial
section
variable {X : Cx} {C fI : Addr} {x f : Str}
/-- X(e) -/
def tMkErr (C : Addr) (f : Str) (ta : TA) : St → Hp → XK → Prop := fun σ H Q => ta σ H fun vs H1 => ∃ v, vs = [v] ∧ ∀ d, H1 d = none → Q (.ref C) (some d) (upd H1 d (.xd [(f, v)]))
theorem mkp_err {pins : List (Addr × Obj)} {σ : St} {H1 : Hp} {Q : XK} {hp : Heap} {g : Array GenState} {dr : Drawn} {tk tk' : Nat} {os : OsState} {v : V} {v' : Value} {h' : Heap} {e d : Addr} (T : PySem.LadX.ErrTxt X.prog X.K X.mg x f C fI)
    (I1 : Inv X pins σ H1 ⟨hp, g, dr, tk, os⟩) (rv : RelV v v') (M : PySem.LadX.OwnMade f hp h' e C d v') (q1 : Q (.ref C) (some d) (upd H1 d (.xd [(f, v)]))) : MkP X pins σ Q (.ref e) ⟨h', g, dr, tk', os⟩ := by
  obtain ⟨oe, fv, hoe, hc, hd, hdat, h1⟩ := M.obj
  have hns := M.ns
  obtain ⟨G', g1, g2⟩ := restrict h' fun b => decide (b ≠ e)
  have gk : ∀ b, b ≠ e → G'.get? b = h'.get? b := fun b hb => g1 b (decide_eq_true hb)
  have ge : G'.get? e = none := g2 e (by simp)
  have old : ∀ b o, hp.get? b = some o → G'.get? b = some o := fun b o q => (gk b (Nat.ne_of_lt (Nat.lt_of_lt_of_le (Heap.lt_size q) M.new))).trans (M.keep b o q)
  have ob : ObjOk X.prog X.w (upd H1 d (.xd [(f, v)])) G' d (.xd [(f, v)]) :=
    ⟨_, hns.at (fun o q => (gk d M.dne).trans q), fun f => relO_err rv f⟩
  have J : Inv X pins σ (upd H1 d (.xd [(f, v)])) ⟨G', g, dr, tk', os⟩ := I1.laid (t' := tk') old M.dbig ob
  refine ⟨e, oe, fv, ⟨G', g, dr, tk', os⟩, _, .ref C, some d, rfl, J, fun b o q => ?_, ge, hoe, ⟨hc, hd⟩, hdat, h1, ?_, rfl, I1.bare, raises_own T.exC T.tyC, q1⟩
  · by_cases hb : b = e
    · have q' : G'.get? b = some o := q
      rw [hb, ge] at q'; cases q'
    · exact (gk b hb).symm.trans q
  · rw [upd_ne (Ne.symm M.dne)]
    exact I1.hok.fresh M.new
theorem pmk_err {a : Expr} {ta : TA} {p pos : Pos} {k : Nat} (T : PySem.LadX.ErrTxt X.prog X.K X.mg x f C fI) (hr : Room k X.A) (ha : PA X [a] ta) (hg : Gl X x := by rfl) (hdb : (x == ("__debug__" : Str)) = false := by decide)
    (he : starEach (a :: []) X.env = (false, eval a X.env) :: starEach [] X.env := by rfl) (hpl : (backTo pos (starEach [] X.env)).any (·.1) = false := by rfl) :
    PMk X (.Call (.Name x p) [a] [] pos) (tMkErr C f ta) := by
  intro pins s σ H Q I h
  refine wpAny_Call_Name_kw (ld_glob I hg T.gC ?_ hdb)
  refine PySem.W.callWith_K (h₀ := X.base) I.ok.mod.kin T.kC (thn (ha.run pos pins s σ H _ I h) fun us s1 hh => ?_) he hpl
  obtain ⟨vs, H1, I1, r1, v, ev, q1⟩ := hh
  subst ev
  refine ⟨I1.kIn, ?_⟩
  cases r1 with
  | cons rv rn =>
    rename_i v' us'
    cases rn
    show wpAny _ _ (call (.ref C) [v']) _ _ _
    have hlim := I1.nolimit
    obtain ⟨mb, hmb, hbb⟩ := I1.ok.mod.blt
    have hG := I1.ok.mod.glob.keeps I1.bk
    have hB := hmb.keeps I1.bk
    have hbS : mb "super" = some (.type "super") := (hbb _ (by decide)).trans (by decide +kernel)
    have kin := I1.kIn
    obtain ⟨hp, g, dr, tk, os⟩ := s1
    refine wpAny_call (PySem.LadX.err_made T kin hG hB hbS hlim (by have := hr.dp; omega) fun h' tk' e d M => ?_)
    show MkP X pins σ Q (.ref e) ⟨h', g, dr, tk', os⟩
    exact mkp_err T I1 rv M (q1 d (I1.hok.fresh M.dbig))
/-- raise X(e) -/
def tRaiseErr (C : Addr) (f : Str) (W : WX) (ta : TA) : TS := fun _ σ H => tMkErr C f ta σ H fun cls d H' => W cls d σ H'
theorem ps_raiseErr {a : Expr} {ta : TA} {W : WX} {p pos pos2 : Pos} {k : Nat} (hc : X.calm = true) (T : PySem.LadX.ErrTxt X.prog X.K X.mg x f C fI) (hr : Room k X.A) (tk : Takes X W) (ha : PA X [a] ta) (hg : Gl X x := by rfl) (hdb : (x == ("__debug__" : Str)) = false := by decide)
    (he : starEach (a :: []) X.env = (false, eval a X.env) :: starEach [] X.env := by rfl) (hpl : (backTo pos (starEach [] X.env)).any (·.1) = false := by rfl) :
    PS X (.Raise (some (.Call (.Name x p) [a] [] pos)) none pos2) (tRaiseErr C f W ta) := ps_raise hc tk (pmk_err T hr ha hg hdb he hpl)
/-- e.f, e the exception that the suite holds (at a; its class cls, its dict d); K says what its class is: any class that looks like an error and has no f -/
structure ErrLook (K : PySem.W.Frag) (C : Addr) : Prop where
  ga : PySem.W.findIn K (.ref C) "__getattribute__" = some (some (.builtin "BaseException.__getattribute__"))
  gg : PySem.W.findIn K (.ref C) "__getattr__" = some none
  exC : PySem.W.subIn K (.ref C) (.type "BaseException") = some true
  hdC : PySem.W.hasDictIn K C = true
theorem _root_.PySem.LadX.ErrTxt.look (T : PySem.LadX.ErrTxt X.prog X.K X.mg x f C fI) : ErrLook X.K C := ⟨T.ga, T.gg, T.exC, T.hdC⟩
def tByErr (K : PySem.W.Frag) (f : Str) (a : Addr) (cls : Value) (d : Option Addr) (te : TE) : TE := fun σ H Q => te σ H fun x H1 => x = .ref a ∧ ∃ C, cls = .ref C ∧ ErrLook K C ∧ PySem.W.findIn K (.ref C) f = some none ∧ ∃ (dd : Addr) (fs : List (Str × V)) (v : V), d = some dd ∧ H1 dd = some (.xd fs) ∧ fs.lookup f = some v ∧ Q v H1
theorem pe_byErr {a : Addr} {oe : Obj} {cls : Value} {d : Option Addr} {pn : List (Addr × Obj)} {e : Expr} {te : TE} {pos : Pos} (hz : Zc cls d oe) (hf : ∃ vs, oe.data = .fields vs) (he : PE (X.suite a ((a, oe) :: pn)) e te)
    (hb : attributeBase e f X.env (eval e X.env) = eval e X.env := by rfl) :
    PE (X.suite a ((a, oe) :: pn)) (.Attribute e f pos) (tByErr X.K f a cls d te) := by
  refine ⟨fun pins s σ H Q I h => ?_⟩
  refine attr_of hb (thn (he.run pins s σ H _ I h) fun u s1 hh => ?_)
  obtain ⟨x, H1, I1, rx, ex, C, ec, T, noN, dd, fs, v, ed, ea, l, q⟩ := hh
  subst ex
  obtain rfl : u = Value.ref a := rx
  subst ec
  subst ed
  obtain ⟨ha, _⟩ := I1.pin (a, oe) (List.mem_append_left _ List.mem_cons_self)
  obtain ⟨vs, hd⟩ := hf
  have hx : ObjOk X.prog X.w H1 s1.heap dd (.xd fs) := I1.hok dd _ ea
  obtain ⟨mA, hns, hr⟩ := hx
  obtain ⟨od, ho, hl⟩ := lookIn_ns hns
  obtain ⟨u, hu, ru⟩ := RelO.some_of (v := v) (o := mA f) (by rw [← l]; exact hr f)
  have J : PySem.W.InstAt s1.heap a oe C (some od) := ⟨ha, hz.1, by unfold PySem.W.notCls; rw [hd] <;> rfl, by rw [hz.2]; exact ho⟩
  exact HandSPX.exc_get I1.kIn J T.ga T.gg T.exC (PySem.W.findObj_own T.hdC noN rfl (by rw [hl, hu])) (handed_of ru) ⟨v, H1, I1.tok _, ru, q⟩
end
end L2
set_option Elab.async false
set_option linter.all false
set_option maxRecDepth 100000
set_option maxHeartbeats 4000000
/-! The errors made with their fields by name. -/
namespace PySem
namespace LadX
open PySem.W PySem.Calls PyProof.Rows PySem.HandSPX
section
variable {prog : Program} {w : World} {A : Around} {E : Value → Shared → Prop} {R : Result → Shared → Prop} {s : Shared} {K : Frag} {mg mb : Str → Option Value} {x f : Str} {C fI : Addr}
/-- BaseException.__new__ for a class of this kind: what is given by position is kept as args -/
theorem exc_laid0 {h : Heap} {g : Array GenState} {d : Drawn} {t : Nat} {os : OsState} {nm q : Str} {N : Addr} {bs bm : List Value} {hdct : Bool} {sn : List Str} {sub : List Value} {ab : Bool} {col : Option Bool} {dd : Option Addr} {k0 k1 k2 k3 k5 : Option Value}
    (hC : h.get? C = some (excClassObj nm q C N bs bm hdct sn sub ab col dd k0 k1 k2 k3 k5 "ValueError.__new__")) (hbm : refsVE bm = true) {rest : List Value} {kw : List (Str × Value)} (hrest : rest.length ≤ sizeLine)
    (hq : R (.ok (.ret (.ref (h.objs.size + 1)))) ⟨(h.push (kdv_tup rest)).push (excO C h.objs.size), g, d, t, os⟩) :
    codeAny (model prog w) A (.builtin "ValueError.__new__" ⟨.ref C :: rest, kw⟩) R ⟨h, g, d, t, os⟩ := by
  have F := F.excBase_ValueError
  have has : ∀ X : String, (Value.ref C :: bm).contains (.type X) = veTail.contains (.type X) := fun X => by
    rw [List.contains_cons, refsVE_contains X bm hbm]
    rfl
  have c1 : (Value.ref C :: bm).contains (.type "ValueError") = true := (has _).trans (by decide +kernel)
  have c2 : (Value.ref C :: bm).contains (.type "AttributeError") = false := (has _).trans (by decide +kernel)
  have c3 : (Value.ref C :: bm).contains (.type "NameError") = false := (has _).trans (by decide +kernel)
  have ends := F.ends
  refine codeAny_builtinAt F.entry ?_
  unfold Builtin.«BaseException.__new__»
  refine wpAt_bind ?_
  show wpAt _ _ _ (stack >>= _) _ _ _
  refine wpAt_bind (wpAt_stack fun p below => wpAt_of_wpAny ?_)
  wp_walk
  refine wpAt_of_wpAny ?_
  rw [F.owner]
  repeat (first | with_reducible refine wpAny_madeHere_exc F.canon hC ?_ | with_reducible refine wpAny_loadPart_at hC ?_ | (with_reducible refine wpAny_isSubtype_exc hC ?_; first | rw [c1] | rw [c2] | rw [c3]) | wp_step)
  show R _ _
  rw [Heap.size_push]
  exact hq
/-- a class of this kind is called with positions and names: the exception, then its own __init__ -/
theorem own_made {h : Heap} {g : Array GenState} {d : Drawn} {t : Nat} {os : OsState} {nm q : Str} {N : Addr} {bs bm : List Value} {hdct : Bool} {sn : List Str} {sub : List Value} {ab : Bool} {col : Option Bool} {dd : Option Addr} {k0 k1 k2 k3 k5 : Option Value}
    (hC : h.get? C = some (excClassObj nm q C N bs bm hdct sn sub ab col dd k0 k1 k2 k3 k5 "ValueError.__new__")) (hbm : refsVE bm = true) {rest : List Value} {kw : List (Str × Value)}
    (hi : Looks (model prog w) h (typeLookup (.ref C) "__init__") (some (.ref fI))) (hb : ∀ self, Looks (model prog w) h (bindSpecial (.ref fI) self) (.ref fI, [self])) (hrest : rest.length ≤ sizeLine)
    (hq : codeAny (model prog w) (A.under (.builtin "type.__call__" ⟨.ref C :: rest, kw⟩)) (.call (.ref fI) ⟨.ref (h.objs.size + 1) :: rest, kw⟩) (InitBack (h.objs.size + 1) R) ⟨(h.push (kdv_tup rest)).push (excO C h.objs.size), g, d, t, os⟩) :
    codeAny (model prog w) A (.call (.ref C) ⟨rest, kw⟩) R ⟨h, g, d, t, os⟩ := by
  have F := F.excBase_ValueError
  have has : ∀ X : String, (Value.ref C :: bm).contains (.type X) = veTail.contains (.type X) := fun X => by
    rw [List.contains_cons, refsVE_contains X bm hbm]
    rfl
  have c1 : (Value.ref C :: bm).contains (.type "ValueError") = true := (has _).trans (by decide +kernel)
  have c4 : (Value.ref C :: bm).contains (.ref C) = true := by simp
  have tl := tc_lookup
  have tb := tc_bind (.ref C)
  have ty : (⟨h, g, d, t, os⟩ : Shared).TypeIs (.ref C) "type" := ⟨_, hC, rfl⟩
  refine codeAny_of_tree ?_
  show wpAny _ _ (callAny (.ref C) _) _ _ _
  repeat (any_goals (first | assumption | with_reducible refine wpAny_loadPart_at hC ?_ | wp_step))
  refine ⟨rfl, codeAny_call_builtin_at (Code.quiet_builtin _ (by decide +kernel)) entry_typeCall (wpAny_check_type_call_sub hC ?_)⟩
  repeat (first | with_reducible refine wpAny_loadPart_at hC ?_ | with_reducible refine wpAny_madeBy_exc hC ?_ | wp_step)
  refine codeAny_call_builtin_code (Code.quiet_builtin _ F.quiet) ?_
  -- what ValueError.__new__ asks of its arguments
  have star := F.noStar
  simp only [checkBuiltinCall, F.newKind, F.newSplit, F.newRow]
  repeat (first | refine wpAny_loadPart_at hC ?_ | (refine wpAny_isSubtype_exc hC ?_; rw [c1]) | refine wpAny_staticBase_exc hC ?_ | refine wpAny_madeBy_exc hC ?_ | simp only [bne_self_eq_false, Bool.false_eq_true, if_false] | wp_step)
  refine exc_laid0 hC hbm hrest ?_
  show wpAny _ _ _ _ _ _
  -- its __init__
  have k : ∀ b o, h.get? b = some o → ((h.push (kdv_tup rest)).push (excO C h.objs.size)).get? b = some o := fun b o e => Heap.get?_push_of_some _ (Heap.get?_push_of_some _ e)
  have hC₁ := k _ _ hC
  have hget : ((h.push (kdv_tup rest)).push (excO C h.objs.size)).get? (h.objs.size + 1) = some (excO C h.objs.size) := by heap_get
  have i1 := hi.keeps k
  have b1 := (hb (.ref (h.objs.size + 1))).keeps k
  unfold isInstance
  repeat (first | with_reducible refine wpAny_loadPart_at hget ?_ | (with_reducible refine wpAny_isSubtype_exc hC₁ ?_; rw [c4]) | wp_step)
  show wpAny _ _ (isSubtype (.ref C) (.ref C)) _ _ ⟨(h.push (kdv_tup rest)).push (excO C h.objs.size), g, d, t, os⟩
  refine wpAny_isSubtype_exc hC₁ ?_
  rw [c4]
  repeat wp_step
  show wpAny _ _ (typeLookup (.ref C) _) _ _ _
  refine i1.at (wpAny_holding (wpAny_bind (b1.at (wpAny_bind (wpAny_call (codeAny_mono hq fun r s' z => ?_))))))
  rcases r with e | (v | _ | _ | _) <;> first | exact z | exact z.elim | skip
  obtain ⟨rfl, z⟩ := z
  first
    | exact wpAny_pure (wpAny_pure z)
    | (wp_walk; exact z)
/-- X(v), X(f = v) -/
theorem err_madeK (T : ErrTxt prog K mg x f C fI) {v : Value} (X : K.In s.heap) (hG : s.heap.Ns mainGlobals mg) (hB : s.heap.Ns builtinsNs mb) (hbS : mb "super" = some (.type "super")) (hlim : s.heap.NoLimit) (hroom : A.depth + 1 < recursionLimit) {args : Args} (ha : args = ⟨[v], []⟩ ∨ args = ⟨[], [(f, v)]⟩)
    (hq : ∀ h' tk e d, OwnMade f s.heap h' e C d v → R (.ok (.ret (.ref e))) { s with heap := h', toks := tk }) :
    codeAny (model prog w) A (.call (.ref C) args) R s := by
  obtain ⟨nm, q, N, bs, bm, sn, sub, ab, col, dd, k0, k1, k2, k3, k5, hC, hbm, _⟩ := T.cls
  obtain ⟨hp, g, dr, tk, os⟩ := s
  obtain ⟨rest, kw⟩ := args
  have ha' : rest.length ≤ 1 ∧ (∀ e : Addr, (⟨.ref e :: rest, kw⟩ : Args) = ⟨[.ref e, v], []⟩ ∨ (⟨.ref e :: rest, kw⟩ : Args) = ⟨[.ref e], [(f, v)]⟩) := by
    rcases ha with ha | ha
    · cases ha
      exact ⟨Nat.le_refl _, fun e => .inl rfl⟩
    · cases ha
      exact ⟨Nat.zero_le _, fun e => .inr rfl⟩
  have k : ∀ b o, hp.get? b = some o → ((hp.push (kdv_tup rest)).push (excO C hp.objs.size)).get? b = some o := fun b o e => Heap.get?_push_of_some _ (Heap.get?_push_of_some _ e)
  have hget : ((hp.push (kdv_tup rest)).push (excO C hp.objs.size)).get? (hp.objs.size + 1) = some (excO C hp.objs.size) := by heap_get
  have hnx : K.lookup (hp.objs.size + 1) = none := by
    cases e : K.lookup (hp.objs.size + 1) with
    | none => rfl
    | some o =>
      have z : hp.get? (hp.objs.size + 1) = some o := X _ _ e
      exact absurd (Nat.lt_of_succ_lt (Heap.lt_size z)) (Nat.lt_irrefl _)
  refine own_made (X _ _ hC) hbm (looks_findIn X T.iC) (fun self => bind_fn X self T.tC) (Nat.le_trans ha'.1 (one_size v)) ?_
  refine err_init (s := ⟨(hp.push (kdv_tup rest)).push (excO C hp.objs.size), g, dr, tk, os⟩) (mb := mb) T (X.keeps k) (hG.keeps k) (hB.keeps k) hbS (hlim.keeps k) hget hnx ?_ (ha'.2 _) fun h' tk' dx t1 ⟨k', hx, dn, dne, hns⟩ => ?_
  · show A.depth + 1 < recursionLimit
    exact hroom
  · have old : ∀ b o, hp.get? b = some o → h'.get? b = some o := fun b o e => k' b o (Nat.ne_of_lt (Nat.lt_succ_of_lt (Heap.lt_size e))) (k b o e)
    have z : hp.objs.size + 1 + 1 ≤ dx := by
      first
        | (simpa only [Heap.size_push] using dn)
        | exact dn
        | (have q := dn; rw [Heap.size_push, Heap.size_push] at q; exact q)
    exact ⟨rfl, hq h' tk' (hp.objs.size + 1) dx ⟨old, Nat.le_succ _, ⟨_, _, hx, rfl, rfl, rfl, rfl⟩, Nat.le_trans (Nat.le_trans (Nat.le_succ _) (Nat.le_succ _)) z, dne, hns⟩⟩
end
end LadX
end PySem
set_option Elab.async false
set_option linter.all false
set_option maxRecDepth 100000
set_option maxHeartbeats 4000000
/-! The error of two fields: class Refused(LadderError): super().__init__(reason, names); self.reason = reason; self.names = names. -/
namespace PySem
namespace LadX
open PySem.W PySem.Calls PyProof.Rows PySem.HandSPX
def jA (p1 p2 p3 : Pos) : Arguments := { posonlyargs := [], args := [{ arg := "self", annotation := none, pos := p1 }, { arg := "reason", annotation := none, pos := p2 }, { arg := "names", annotation := none, pos := p3 }], vararg := none, kwonlyargs := [], kw_defaults := [], kwarg := none, defaults := [] }
def jB (q1 q2 q3 q4 q5 q6 q7 r1 r2 r3 r4 s1 s2 s3 s4 : Pos) : List Stmt := [.Expr (.Call (.Attribute (.Call (.Name "super" q1) [] [] q2) "__init__" q3) [.Name "reason" q4, .Name "names" q5] [] q6) q7, .Assign [.Attribute (.Name "self" r1) "reason" r2] (.Name "reason" r3) r4, .Assign [.Attribute (.Name "self" s1) "names" s2] (.Name "names" s3) s4]
def jS : Scope := { kind := .function, names := [(PySem.Str.ofString "self", .local), (PySem.Str.ofString "reason", .local), (PySem.Str.ofString "names", .local), (PySem.Str.ofString "__class__", .free), (PySem.Str.ofString "super", .globalImplicit)], isGenerator := false, isCoroutine := false, more := [] }
structure RefTxt (prog : Program) (K : Frag) (mg : Str → Option Value) (x : Str) (C fI : Addr) : Prop where
  gC : mg x = some (.ref C)
  gS : mg "super" = none
  cls : ∃ nm q N bs bm sn sub ab col dd k0 k1 k2 k3 k5, K.lookup C = some (excClassObj nm q C N bs bm true sn sub ab col dd k0 k1 k2 k3 k5 "ValueError.__new__") ∧ refsVE bm = true ∧ alongIn K "__init__" bm = some (some (.builtin "ValueError.__init__"))
  opq : nsIn K cStatics "thirdparty.any" = some none
  sa : findIn K (.ref C) "__setattr__" = some (some (.builtin "object.__setattr__"))
  ga : findIn K (.ref C) "__getattribute__" = some (some (.builtin "BaseException.__getattribute__"))
  gg : findIn K (.ref C) "__getattr__" = some none
  no1 : findIn K (.ref C) "reason" = some none
  no2 : findIn K (.ref C) "names" = some none
  iC : findIn K (.ref C) "__init__" = some (some (.ref fI))
  tC : typeIn K (.ref fI) = some (.type "function")
  kC : keepIn K (.ref C) = true
  exC : subIn K (.ref C) (.type "BaseException") = some true
  veC : subIn K (.ref C) (.type "ValueError") = some true
  seC : mroIn K C (.ref C) = some true
  tyC : typeIn K (.ref C) = some (.type "type")
  hdC : hasDictIn K C = true
  top : (prog.main.scope.names.lookup ("super" : Str)).isSome = false
  fn : ∃ (qual : Str) (oc : Value) (od : Option Addr) (doc pm : Value) (an : Option Addr) (cda cc : Addr) (ct : Value) (osl : Array (Option Value)) (p1 p2 p3 q1 q2 q3 q4 q5 q6 q7 r1 r2 r3 r4 s1 s2 s3 s4 : Pos) (vs : Array Value) (file : Str) (tf : Tok) (ccl cl : Value) (cdd cld : Option Addr) (ccs csl : Array (Option Value)),
    K.lookup fI = some ⟨oc, od, .func (ksFn "__init__" qual (jA p1 p2 p3) (jB q1 q2 q3 q4 q5 q6 q7 r1 r2 r3 r4 s1 s2 s3 s4) jS .none .none doc pm an (.ref cda) ct cc), osl⟩ ∧ (q3.endLine == q6.line) = true ∧ codeIn K (.ref cda) qual = true ∧
    K.lookup cda = some ⟨ccl, cdd, .fields vs, ccs⟩ ∧ vs[2]? = some (.str file tf) ∧ ((prog.main.file : Str) == file) = true ∧ K.lookup cc = some ⟨cl, cld, .cell (some (.ref C)), csl⟩
/-- the ways in which reason v1 and names v2 may be told -/
def TwoWays (pre : List Value) (v1 v2 : Value) (args : Args) : Prop := args = ⟨pre ++ [v1, v2], []⟩ ∨ args = ⟨pre, [("reason", v1), ("names", v2)]⟩ ∨ args = ⟨pre, [("names", v2), ("reason", v1)]⟩
section
variable {prog : Program} {w : World} {A : Around} {E : Value → Shared → Prop} {R : Result → Shared → Prop} {s : Shared} {K : Frag} {mg mb : Str → Option Value} {x : Str} {C fI : Addr}
structure InitEnd2 (h h' : Heap) (x C dx t1 : Addr) (v1 v2 : Value) : Prop where
  keep : ∀ b o, b ≠ x → h.get? b = some o → h'.get? b = some o
  obj : h'.get? x = some { cls := .ref C, dict := some dx, data := .fields #[.ref t1, .none, .none, .none, .bool false, .none] }
  dbig : h.objs.size ≤ dx
  dne : dx ≠ x
  ns : h'.Ns1 dx (fun y => if y = "names" then some v2 else if y = "reason" then some v1 else none)
structure OwnMade2 (h h' : Heap) (e C d : Addr) (v1 v2 : Value) : Prop where
  keep : ∀ b o, h.get? b = some o → h'.get? b = some o
  new : h.objs.size ≤ e
  obj : ∃ oe vs, h'.get? e = some oe ∧ oe.cls = .ref C ∧ oe.dict = some d ∧ oe.data = .fields vs ∧ vs[1]? = some .none
  dbig : h.objs.size ≤ d
  dne : d ≠ e
  ns : h'.Ns1 d (fun y => if y = "names" then some v2 else if y = "reason" then some v1 else none)
theorem two_size (v1 v2 : Value) : [v1, v2].length ≤ sizeLine := by
  rw [sizeLine_eq]
  exact (by decide : 2 ≤ 16777216)
theorem within_if {f : Str} {v : Value} : Within (fun y => if y = f then some v else none) [f] := fun y hy => by
  by_cases h : y = f
  · rw [h]
    exact List.mem_singleton.mpr rfl
  · exact absurd (if_neg h) hy
theorem ref_init (T : RefTxt prog K mg x C fI) {e t0 : Addr} {v1 v2 : Value} (X : K.In s.heap) (hG : s.heap.Ns mainGlobals mg) (hB : s.heap.Ns builtinsNs mb) (hbS : mb "super" = some (.type "super")) (hlim : s.heap.NoLimit)
    (hx : s.heap.get? e = some (excO C t0)) (hnx : K.lookup e = none) (hroom : A.depth < recursionLimit) {args : Args} (ha : TwoWays [.ref e] v1 v2 args)
    (hq : ∀ h' tk dx t1, InitEnd2 s.heap h' e C dx t1 v1 v2 → R (.ok (.ret .none)) { s with heap := h', toks := tk }) :
    codeAny (model prog w) A (.call (.ref fI) args) R s := by
  obtain ⟨qual, oc, od, doc, pm, an, cda, cc, ct, osl, p1, p2, p3, q1, q2, q3, q4, q5, q6, q7, r1, r2, r3, r4, s1, s2, s3, s4, vs, file, tf, ccl, cl, cdd, cld, ccs, csl, ho, hln, hcd, hcda, hvs, hfile, hcc⟩ := T.fn
  obtain ⟨nm, q, N, bs, bm, sn, sub, ab, col, dd, k0, k1, k2, k3, k5, hC, hbm, hal⟩ := T.cls
  have hcl : clsIn K C = some { name := nm, bases := bs, mro := .ref C :: bm, ns := N, qualname := q, hasDict := true, slotNames := sn, subclasses := sub, abstract := ab, collection := col, hasDel := false } := by unfold clsIn; rw [hC] <;> rfl
  refine ks_codeAny_call_defAt (fd := ksFn "__init__" qual (jA p1 p2 p3) (jB q1 q2 q3 q4 q5 q6 q7 r1 r2 r3 r4 s1 s2 s3 s4) jS .none .none doc pm an (.ref cda) ct cc) (body := jB q1 q2 q3 q4 q5 q6 q7 r1 r2 r3 r4 s1 s2 s3 s4) (binds := [("self", .ref e), ("reason", v1), ("names", v2)]) hroom (X _ _ ho) rfl hlim (codeRec_of X hcd) rfl (BindsTo.of_eq (by
      rcases ha with rfl | rfl | rfl <;> rfl)) (show ∀ x ∈ jS.names, x.2 ≠ .cell by decide +kernel) ?_ (fun h₁ hn k => ?_)
  · intro y hy
    rcases List.mem_cons.mp hy with rfl | hy
    · rfl
    · rcases List.mem_cons.mp hy with rfl | hy
      · rfl
      · rcases List.mem_cons.mp hy with rfl | hy
        · rfl
        · cases hy
  have X₁ : K.In h₁ := X.keeps k
  have hx₁ := k _ _ hx
  have lt : e < s.heap.objs.size := Heap.lt_size hx
  have m0 : (fun y => List.lookup y (List.reverse [(("self" : Str), Value.ref e), ("reason", v1), ("names", v2)])) "self" = some (.ref e) := by with_unfolding_all rfl
  have m1 : (fun y => List.lookup y (List.reverse [(("self" : Str), Value.ref e), ("reason", v1), ("names", v2)])) "reason" = some v1 := by with_unfolding_all rfl
  have m2 : (fun y => List.lookup y (List.reverse [(("self" : Str), Value.ref e), ("reason", v1), ("names", v2)])) "names" = some v2 := by with_unfolding_all rfl
  generalize (fun y => List.lookup y (List.reverse [(("self" : Str), Value.ref e), ("reason", v1), ("names", v2)])) = m at hn m0 m1 m2
  show _root_.PySem.wpAt _ _ _ (execs (.Expr (.Call (.Attribute (.Call (.Name "super" q1) [] [] q2) "__init__" q3) [.Name "reason" q4, .Name "names" q5] [] q6) q7 :: _) _) _ _ _
  refine ks_wpAt_execs_cons (ks_wpAt_Expr_any (ks_wpAt_MethodCall ?_ (eval_meth hln)))
  refine super_obj (s := { s with heap := h₁, toks := _ }) X₁ (hG.keeps k) (hB.keeps k) T.gS hbS hn ho rfl m0 hx₁ hcda hvs hfile hcc hcl T.seC rfl rfl rfl rfl T.top (fun h₂ hso k₂ => ?_)
  -- super().__init__
  have k02 : ∀ b o, s.heap.get? b = some o → h₂.get? b = some o := fun b o e => k₂ b o (k b o e)
  have X₂ : K.In h₂ := X.keeps k02
  have hx₂ := k02 _ _ hx
  have sz1 : s.heap.objs.size < h₁.objs.size := hn.lt
  have hI : Looks (model prog w) h₂ (isInstance (.ref e) (.type "ValueError")) true := by
    have I : InstAt h₂ e (excO C t0) C none := ⟨hx₂, rfl, rfl, trivial⟩
    exact I.type.andThen (looks_subIn X₂ T.veC)
  have hmro : Looks (model prog w) h₂ (mroOf (.ref C)) (.ref C :: bm) := fun A Q E s k q => wpAny_bind ((looks_clsIn X₂ hcl) A _ E s k (wpAny_pure q))
  have hne : e ≠ C := fun z => by
    rw [z, X _ _ hC] at hx
    cases hx
  refine kxs_getMethod kxs_ValueError hso (looks_opaque X₂ T.opq) hmro (show _ = bm from drop_own C bm) X₂ hal hI hne (by decide) ?_
  have hn₂ := hn.keeps k₂
  show wpAny _ _ (callWith q6 (.ref h₂.objs.size) [] (backTo q6 (starEach [.Name "reason" q4, .Name "names" q5] _)) []) _ _ _
  have kp : ∀ b o, h₂.get? b = some o → (h₂.push (kxs_mw "ValueError.__init__" e)).get? b = some o := fun b o z => Heap.get?_push_of_some _ z
  refine kxs_callWith (i := "ValueError.__init__") (x := e) rfl (evalArgs_plain ?_)
  refine Calls.spliced_cons (ld (hn₂.keeps kp) rfl m1 ?_ rfl rfl rfl)
  refine Calls.spliced_cons (ld (hn₂.keeps kp) rfl m2 ?_ rfl rfl rfl)
  refine Calls.spliced_nil ?_
  refine ⟨Heap.get?_push_size _ rfl, ?_⟩
  refine call_mw (kp _ _ (X₂ _ _ hC)) (kp _ _ hx₂) (Heap.get?_push_size _ rfl) (two_size v1 v2) (fun h₃ t1 k₃ hx₃ => ?_)
  -- self.reason = reason
  have k23 : ∀ b o, b ≠ e → h₂.get? b = some o → h₃.get? b = some o := fun b o hb z => k₃ b o hb (kp b o z)
  have X₃ : K.In h₃ := kept_but X₂ hnx k23
  have hn₃ : h₃.Ns s.heap.objs.size m := by
    obtain ⟨o, es, ep, e1, r⟩ := hn₂
    exact ⟨o, es, ep, k23 _ _ (Nat.ne_of_gt lt) e1, r⟩
  show _root_.PySem.wpAt _ _ _ (execs (.Assign [.Attribute (.Name "self" r1) "reason" r2] (.Name "reason" r3) r4 :: _) _) _ _ _
  refine ks_wpAt_execs_cons (ks_wpAt_Assign_Attr (wpAt_of_wpAny ?_))
  refine ld hn₃ rfl m1 (ld hn₃ rfl m0 ?_ rfl rfl rfl) rfl rfl rfl
  refine set_plain X₃ (ox := excO C t1) (od := none) ⟨hx₃, rfl, rfl, trivial⟩ T.sa ?_
  refine exc_osa X₃ hx₃ hcl (show refsVE (.ref C :: bm) = true from hbm) rfl T.no1 (fun h₄ tk₄ dx k₄ dn dne hx₄ hn₄ => ?_)
  -- self.names = names
  have X₄ : K.In h₄ := kept_but X₃ hnx k₄
  have hn₅ : h₄.Ns s.heap.objs.size m := by
    obtain ⟨o, es, ep, e1, r⟩ := hn₃
    exact ⟨o, es, ep, k₄ _ _ (Nat.ne_of_gt lt) e1, r⟩
  obtain ⟨oD, _, _, hoD, _, _⟩ := hn₄.count within_if
  show _root_.PySem.wpAt _ _ _ (execs (.Assign [.Attribute (.Name "self" s1) "names" s2] (.Name "names" s3) s4 :: _) _) _ _ _
  refine ks_wpAt_execs_cons (ks_wpAt_Assign_Attr (wpAt_of_wpAny ?_))
  refine ld hn₅ rfl m2 (ld hn₅ rfl m0 ?_ rfl rfl rfl) rfl rfl rfl
  refine set_plain X₄ (od := some oD) ⟨hx₄, rfl, rfl, hoD⟩ T.sa ?_
  refine OEX.osa_old X₄ hx₄ hn₄ within_if (by decide) hcl (show refsVE (.ref C :: bm) = true from hbm) rfl T.no2 (fun h₅ tk₅ k₅ hn₆ => ?_)
  show _root_.PySem.wpAt _ _ _ (execs [] _) _ _ _
  have l3 : s.heap.objs.size < h₃.objs.size := hn₃.lt
  have lx : s.heap.objs.size ≤ dx := Nat.le_of_lt (Nat.lt_of_lt_of_le l3 dn)
  refine wpAt_of_wpAny (wpAny_execs_nil (hq h₅ tk₅ dx t1 ⟨fun b o hb z => k₅ b o (Nat.ne_of_lt (Nat.lt_of_lt_of_le (Heap.lt_size z) lx)) (k₄ b o hb (k23 b o hb (k02 b o z))), k₅ _ _ (Ne.symm dne) hx₄, lx, dne, hn₆⟩))
/-- Refused(reason, names) -/
theorem ref_made (T : RefTxt prog K mg x C fI) {v1 v2 : Value} (X : K.In s.heap) (hG : s.heap.Ns mainGlobals mg) (hB : s.heap.Ns builtinsNs mb) (hbS : mb "super" = some (.type "super")) (hlim : s.heap.NoLimit) (hroom : A.depth + 1 < recursionLimit) {args : Args} (ha : TwoWays [] v1 v2 args)
    (hq : ∀ h' tk e d, OwnMade2 s.heap h' e C d v1 v2 → R (.ok (.ret (.ref e))) { s with heap := h', toks := tk }) :
    codeAny (model prog w) A (.call (.ref C) args) R s := by
  obtain ⟨nm, q, N, bs, bm, sn, sub, ab, col, dd, k0, k1, k2, k3, k5, hC, hbm, _⟩ := T.cls
  obtain ⟨hp, g, dr, tk, os⟩ := s
  obtain ⟨rest, kw⟩ := args
  have ha' : rest.length ≤ [v1, v2].length ∧ (∀ e : Addr, TwoWays [.ref e] v1 v2 ⟨.ref e :: rest, kw⟩) := by
    rcases ha with ha | ha | ha
    · cases ha
      exact ⟨Nat.le_refl _, fun e => .inl rfl⟩
    · cases ha
      exact ⟨Nat.zero_le _, fun e => .inr (.inl rfl)⟩
    · cases ha
      exact ⟨Nat.zero_le _, fun e => .inr (.inr rfl)⟩
  have k : ∀ b o, hp.get? b = some o → ((hp.push (kdv_tup rest)).push (excO C hp.objs.size)).get? b = some o := fun b o e => Heap.get?_push_of_some _ (Heap.get?_push_of_some _ e)
  have hget : ((hp.push (kdv_tup rest)).push (excO C hp.objs.size)).get? (hp.objs.size + 1) = some (excO C hp.objs.size) := by heap_get
  have hnx : K.lookup (hp.objs.size + 1) = none := by
    cases e : K.lookup (hp.objs.size + 1) with
    | none => rfl
    | some o =>
      have z : hp.get? (hp.objs.size + 1) = some o := X _ _ e
      exact absurd (Nat.lt_of_succ_lt (Heap.lt_size z)) (Nat.lt_irrefl _)
  refine own_made (X _ _ hC) hbm (looks_findIn X T.iC) (fun self => bind_fn X self T.tC) (Nat.le_trans ha'.1 (two_size v1 v2)) ?_
  refine ref_init (s := ⟨(hp.push (kdv_tup rest)).push (excO C hp.objs.size), g, dr, tk, os⟩) (mb := mb) T (X.keeps k) (hG.keeps k) (hB.keeps k) hbS (hlim.keeps k) hget hnx ?_ (ha'.2 _) fun h' tk' dx t1 ⟨k', hx, dn, dne, hns⟩ => ?_
  · show A.depth + 1 < recursionLimit
    exact hroom
  · have old : ∀ b o, hp.get? b = some o → h'.get? b = some o := fun b o e => k' b o (Nat.ne_of_lt (Nat.lt_succ_of_lt (Heap.lt_size e))) (k b o e)
    have z : hp.objs.size + 1 + 1 ≤ dx := by
      first
        | (simpa only [Heap.size_push] using dn)
        | exact dn
        | (have q := dn; rw [Heap.size_push, Heap.size_push] at q; exact q)
    exact ⟨rfl, hq h' tk' (hp.objs.size + 1) dx ⟨old, Nat.le_succ _, ⟨_, _, hx, rfl, rfl, rfl, rfl⟩, Nat.le_trans (Nat.le_trans (Nat.le_succ _) (Nat.le_succ _)) z, dne, hns⟩⟩
end
end LadX
end PySem
namespace L2
open PySem PySem.Spec PyProof.Rows
theorem relO_two {v1 v2 : V} {u1 u2 : Value} (r1 : RelV v1 u1) (r2 : RelV v2 u2) (g : Str) : RelO (List.lookup g [(("names" : Str), v2), ("reason", v1)]) (if g = "names" then some u2 else if g = "reason" then some u1 else none) := by
  by_cases h2 : g = "names"
  · rw [if_pos h2, h2]
    exact r2
  · rw [if_neg h2, List.lookup_cons, show (g == ("names" : Str)) = false by simpa using h2]
    exact relO_err r1 g
section
variable {X : Cx} {C fI : Addr} {x : Str}
/-- what stands behind the making of an exception at e with the dict d that holds fs -/
theorem laid_exc {pins : List (Addr × Obj)} {σ : St} {H1 : Hp} {hp h' : Heap} {g : Array GenState} {dr : Drawn} {tk tk' : Nat} {os : OsState} {e d : Addr} {fs : List (Str × V)} {mA : Str → Option Value}
    (I1 : Inv X pins σ H1 ⟨hp, g, dr, tk, os⟩) (keep : ∀ b o, hp.get? b = some o → h'.get? b = some o) (new : hp.objs.size ≤ e) (dbig : hp.objs.size ≤ d) (dne : d ≠ e) (ns : h'.Ns1 d mA) (r : ∀ g, RelO (fs.lookup g) (mA g)) :
    ∃ G', Inv X pins σ (upd H1 d (.xd fs)) ⟨G', g, dr, tk', os⟩ ∧ (∀ b o, G'.get? b = some o → h'.get? b = some o) ∧ G'.get? e = none ∧ (upd H1 d (.xd fs)) e = none := by
  obtain ⟨G', g1, g2⟩ := restrict h' fun b => decide (b ≠ e)
  have gk : ∀ b, b ≠ e → G'.get? b = h'.get? b := fun b hb => g1 b (decide_eq_true hb)
  have ge : G'.get? e = none := g2 e (by simp)
  have old : ∀ b o, hp.get? b = some o → G'.get? b = some o := fun b o q => (gk b (Nat.ne_of_lt (Nat.lt_of_lt_of_le (Heap.lt_size q) new))).trans (keep b o q)
  have ob : ObjOk X.prog X.w (upd H1 d (.xd fs)) G' d (.xd fs) := ⟨_, ns.at (fun o q => (gk d dne).trans q), r⟩
  refine ⟨G', I1.laid (t' := tk') old dbig ob, fun b o q => ?_, ge, ?_⟩
  · by_cases hb : b = e
    · rw [hb, ge] at q; cases q
    · exact (gk b hb).symm.trans q
  · rw [upd_ne (Ne.symm dne)]
    exact I1.hok.fresh new
def tMkRef (C : Addr) (ta : TA) : St → Hp → XK → Prop := fun σ H Q => ta σ H fun vs H1 => ∃ v1 v2, vs = [v1, v2] ∧ ∀ d, H1 d = none → Q (.ref C) (some d) (upd H1 d (.xd [(("names" : Str), v2), ("reason", v1)]))
theorem pmk_ref {a1 a2 : Expr} {ta : TA} {p pos : Pos} {k : Nat} (T : PySem.LadX.RefTxt X.prog X.K X.mg x C fI) (hr : Room k X.A) (ha : PA X [a1, a2] ta) (hg : Gl X x := by rfl) (hdb : (x == ("__debug__" : Str)) = false := by decide)
    (he : starEach (a1 :: [a2]) X.env = (false, eval a1 X.env) :: starEach [a2] X.env := by rfl) (hpl : (backTo pos (starEach [a2] X.env)).any (·.1) = false := by rfl) :
    PMk X (.Call (.Name x p) [a1, a2] [] pos) (tMkRef C ta) := by
  intro pins s σ H Q I h
  refine wpAny_Call_Name_kw (ld_glob I hg T.gC ?_ hdb)
  refine PySem.W.callWith_K (h₀ := X.base) I.ok.mod.kin T.kC (thn (ha.run pos pins s σ H _ I h) fun us s1 hh => ?_) he hpl
  obtain ⟨vs, H1, I1, r1, v1, v2, ev, q1⟩ := hh
  subst ev
  refine ⟨I1.kIn, ?_⟩
  cases r1 with
  | cons rv1 rn =>
    rename_i u1 us'
    cases rn with
    | cons rv2 rn =>
      rename_i u2 us'
      cases rn
      show wpAny _ _ (call (.ref C) [u1, u2]) _ _ _
      have hlim := I1.nolimit
      obtain ⟨mb, hmb, hbb⟩ := I1.ok.mod.blt
      have hG := I1.ok.mod.glob.keeps I1.bk
      have hB := hmb.keeps I1.bk
      have hbS : mb "super" = some (.type "super") := (hbb _ (by decide)).trans (by decide +kernel)
      have kin := I1.kIn
      obtain ⟨hp, g, dr, tk, os⟩ := s1
      refine wpAny_call (PySem.LadX.ref_made T kin hG hB hbS hlim (by have := hr.dp; omega) (.inl rfl) fun h' tk' e d M => ?_)
      show MkP X pins σ Q (.ref e) ⟨h', g, dr, tk', os⟩
      obtain ⟨oe, fv, hoe, hc, hd, hdat, h1⟩ := M.obj
      obtain ⟨G', J, kG, ge, na⟩ := laid_exc (tk' := tk') I1 M.keep M.new M.dbig M.dne M.ns (relO_two rv1 rv2)
      exact ⟨e, oe, fv, ⟨G', g, dr, tk', os⟩, _, .ref C, some d, rfl, J, kG, ge, hoe, ⟨hc, hd⟩, hdat, h1, na, rfl, I1.bare, raises_own T.exC T.tyC, q1 d (I1.hok.fresh M.dbig)⟩
/-- raise Refused(reason, names) -/
def tRaiseRef (C : Addr) (W : WX) (ta : TA) : TS := fun _ σ H => tMkRef C ta σ H fun cls d H' => W cls d σ H'
theorem ps_raiseRef {a1 a2 : Expr} {ta : TA} {W : WX} {p pos pos2 : Pos} {k : Nat} (hc : X.calm = true) (T : PySem.LadX.RefTxt X.prog X.K X.mg x C fI) (hr : Room k X.A) (tk : Takes X W) (ha : PA X [a1, a2] ta) (hg : Gl X x := by rfl) (hdb : (x == ("__debug__" : Str)) = false := by decide)
    (he : starEach (a1 :: [a2]) X.env = (false, eval a1 X.env) :: starEach [a2] X.env := by rfl) (hpl : (backTo pos (starEach [a2] X.env)).any (·.1) = false := by rfl) :
    PS X (.Raise (some (.Call (.Name x p) [a1, a2] [] pos)) none pos2) (tRaiseRef C W ta) := ps_raise hc tk (pmk_ref T hr ha hg hdb he hpl)

/-! ### X(f = e).f: made, read, let go -/
theorem read_new {pins : List (Addr × Obj)} {σ : St} {H1 : Hp} {s1 : Shared} {h' : Heap} {tk' : Nat} {e d : Addr} {f : Str} {fs : List (Str × V)} {mA : Str → Option Value} {v : V} {Q : VK} {oe : Obj} {ex : Bool} (L : ErrLook X.K C) (noN : PySem.W.findIn X.K (.ref C) f = some none)
    (I1 : Inv X pins σ H1 s1) (keep : ∀ b o, s1.heap.get? b = some o → h'.get? b = some o) (hoe : h'.get? e = some oe) (hc : oe.cls = .ref C) (hd : oe.dict = some d) (hf : ∃ vs, oe.data = .fields vs) (ns : h'.Ns1 d mA) (r : ∀ g, RelO (fs.lookup g) (mA g)) (hl : fs.lookup f = some v) (q : Q v H1) :
    wpAny (model X.prog X.w) X.A (getAttr (.ref e) f ex) (EP X pins σ Q) X.xe { s1 with heap := h', toks := tk' } := by
  have J : Inv X pins σ H1 { s1 with heap := h', toks := tk' } := I1.kept (t' := tk') keep
  obtain ⟨od, ho, hlk⟩ := lookIn_ns ns
  obtain ⟨vs, hdat⟩ := hf
  obtain ⟨u, hu, ru⟩ := RelO.some_of (v := v) (o := mA f) (by rw [← hl]; exact r f)
  have At : PySem.W.InstAt h' e oe C (some od) := ⟨hoe, hc, by unfold PySem.W.notCls; rw [hdat] <;> rfl, by rw [hd]; exact ho⟩
  exact HandSPX.exc_get J.kIn At L.ga L.gg L.exC (PySem.W.findObj_own L.hdC noN rfl (by rw [hlk, hu])) (handed_of ru) ⟨v, H1, J.tok _, ru, q⟩
/-- X(f = e).f -/
def tErrF (ta : TE) : TE := fun σ H Q => ta σ H fun x H1 => ∃ v, [x] = [v] ∧ Q v H1
theorem pe_errF {f : Str} {a : Expr} {ta : TE} {p kp pos pos2 : Pos} {k : Nat} (T : PySem.LadX.ErrTxt X.prog X.K X.mg x f C fI) (hr : Room k X.A) (ha : PE X a ta) (hg : Gl X x := by rfl) (hdb : (x == ("__debug__" : Str)) = false := by decide)
    (hb : attributeBase (.Call (.Name x p) [] [⟨some f, a, kp⟩] pos) f X.env (eval (.Call (.Name x p) [] [⟨some f, a, kp⟩] pos) X.env) = eval (.Call (.Name x p) [] [⟨some f, a, kp⟩] pos) X.env := by rfl)
    (hall : (backToKw pos (keywordEach [⟨some f, a, kp⟩] X.env)).all (·.1.isSome) = true := by rfl) (hks : (backToKw pos (keywordEach [⟨some f, a, kp⟩] X.env)).filterMap (·.1) = [f] := by rfl)
    (hpl : ((backTo pos (starEach [] X.env)).any (·.1) || (backToKw pos (keywordEach [⟨some f, a, kp⟩] X.env)).any (·.1.isNone)) = false := by rfl) :
    PE X (.Attribute (.Call (.Name x p) [] [⟨some f, a, kp⟩] pos) f pos2) (tErrF ta) := by
  refine ⟨fun pins s σ H Q I h => ?_⟩
  refine attr_of hb (wpAny_Call_Name_kw (ld_glob I hg T.gC ?_ hdb))
  refine PySem.W.callWith_KW0 (h₀ := X.base) I.ok.mod.kin T.kC hall ?_ hpl
  have hk : PK X [⟨some f, a, kp⟩] (tCons ta tNil) := pk_cons ha pk_nil
  refine thn (hk.run pos pins s σ H (fun vs H1 => ∃ v, vs = [v] ∧ Q v H1) I h) fun ws s1 ⟨vs, H1, I1, r1, v, ev, q1⟩ => ⟨I1.kIn, ?_⟩
  subst ev
  rw [hks]
  cases r1 with
  | cons rv rn =>
    cases rn
    show wpAny _ _ (call (.ref C) [] [(f, _)]) _ _ _
    have hlim := I1.nolimit
    obtain ⟨mb, hmb, hbb⟩ := I1.ok.mod.blt
    have hG := I1.ok.mod.glob.keeps I1.bk
    have hB := hmb.keeps I1.bk
    have hbS : mb "super" = some (.type "super") := (hbb _ (by decide)).trans (by decide +kernel)
    refine wpAny_call (PySem.LadX.err_madeK T I1.kIn hG hB hbS hlim (by have := hr.dp; omega) (.inr rfl) fun h' tk' e d M => ?_)
    obtain ⟨oe, fv, hoe, hc, hd, hdat, h1⟩ := M.obj
    exact read_new T.look T.noN I1 M.keep hoe hc hd ⟨_, hdat⟩ M.ns (relO_err rv) (by simp [List.lookup]) q1
/-- Refused(reason = a, names = b).f, Refused(names = b, reason = a).f -/
def tRefF (b1 b2 : Bool) (t1 t2 : TE) : TE := fun σ H Q => t1 σ H fun x1 H1 => t2 σ H1 fun x2 H2 => ∃ v1 v2, [x1, x2] = (if b1 = true then [v1, v2] else [v2, v1]) ∧ Q (if b2 = true then v1 else v2) H2
theorem pe_refF (b1 b2 : Bool) {a1 a2 : Expr} {t1 t2 : TE} {p kp1 kp2 pos pos2 : Pos} {k : Nat} (T : PySem.LadX.RefTxt X.prog X.K X.mg x C fI) (hr : Room k X.A) (h1 : PE X a1 t1) (h2 : PE X a2 t2) {n1 n2 f : Str} (en : [n1, n2] = (if b1 = true then [("reason" : Str), "names"] else ["names", "reason"])) (ef : f = (if b2 = true then ("reason" : Str) else "names")) (hg : Gl X x := by rfl) (hdb : (x == ("__debug__" : Str)) = false := by decide)
    (hb : attributeBase (.Call (.Name x p) [] [⟨some n1, a1, kp1⟩, ⟨some n2, a2, kp2⟩] pos) f X.env (eval (.Call (.Name x p) [] [⟨some n1, a1, kp1⟩, ⟨some n2, a2, kp2⟩] pos) X.env) = eval (.Call (.Name x p) [] [⟨some n1, a1, kp1⟩, ⟨some n2, a2, kp2⟩] pos) X.env := by rfl)
    (hall : (backToKw pos (keywordEach [⟨some n1, a1, kp1⟩, ⟨some n2, a2, kp2⟩] X.env)).all (·.1.isSome) = true := by rfl) (hks : (backToKw pos (keywordEach [⟨some n1, a1, kp1⟩, ⟨some n2, a2, kp2⟩] X.env)).filterMap (·.1) = [n1, n2] := by rfl)
    (hpl : ((backTo pos (starEach [] X.env)).any (·.1) || (backToKw pos (keywordEach [⟨some n1, a1, kp1⟩, ⟨some n2, a2, kp2⟩] X.env)).any (·.1.isNone)) = false := by rfl) :
    PE X (.Attribute (.Call (.Name x p) [] [⟨some n1, a1, kp1⟩, ⟨some n2, a2, kp2⟩] pos) f pos2) (tRefF b1 b2 t1 t2) := by
  refine ⟨fun pins s σ H Q I h => ?_⟩
  refine attr_of hb (wpAny_Call_Name_kw (ld_glob I hg T.gC ?_ hdb))
  refine PySem.W.callWith_KW0 (h₀ := X.base) I.ok.mod.kin T.kC hall ?_ hpl
  have hk : PK X [⟨some n1, a1, kp1⟩, ⟨some n2, a2, kp2⟩] (tCons t1 (tCons t2 tNil)) := pk_cons h1 (pk_cons h2 pk_nil)
  refine thn (hk.run pos pins s σ H (fun vs H1 => ∃ v1 v2, vs = (if b1 = true then [v1, v2] else [v2, v1]) ∧ Q (if b2 = true then v1 else v2) H1) I h) fun ws s1 ⟨vs, H1, I1, r1, v1, v2, ev, q1⟩ => ⟨I1.kIn, ?_⟩
  rw [hks, en]
  have key : ∃ u1 u2, RelV v1 u1 ∧ RelV v2 u2 ∧ PySem.LadX.TwoWays [] u1 u2 ⟨[], (if b1 = true then [("reason" : Str), "names"] else ["names", "reason"]).zip ws⟩ := by
    subst ev
    cases b1 with
    | true =>
      cases r1 with
      | cons ra rn =>
        cases rn with
        | cons rb rn =>
          cases rn
          exact ⟨_, _, ra, rb, .inr (.inl rfl)⟩
    | false =>
      cases r1 with
      | cons ra rn =>
        cases rn with
        | cons rb rn =>
          cases rn
          exact ⟨_, _, rb, ra, .inr (.inr rfl)⟩
  obtain ⟨u1, u2, rv1, rv2, tw⟩ := key
  have hlim := I1.nolimit
  obtain ⟨mb, hmb, hbb⟩ := I1.ok.mod.blt
  have hG := I1.ok.mod.glob.keeps I1.bk
  have hB := hmb.keeps I1.bk
  have hbS : mb "super" = some (.type "super") := (hbb _ (by decide)).trans (by decide +kernel)
  refine wpAny_call (PySem.LadX.ref_made T I1.kIn hG hB hbS hlim (by have := hr.dp; omega) tw fun h' tk' e d M => ?_)
  obtain ⟨oe, fv, hoe, hc, hd, hdat, h1⟩ := M.obj
  have L : ErrLook X.K C := ⟨T.ga, T.gg, T.exC, T.hdC⟩
  subst ef
  cases b2 with
  | true => exact read_new (f := "reason") L T.no1 I1 M.keep hoe hc hd ⟨_, hdat⟩ M.ns (relO_two rv1 rv2) (by with_unfolding_all rfl) q1
  | false => exact read_new (f := "names") L T.no2 I1 M.keep hoe hc hd ⟨_, hdat⟩ M.ns (relO_two rv1 rv2) (by with_unfolding_all rfl) q1
end
end L2
set_option Elab.async false
set_option linter.all false
set_option maxRecDepth 100000
set_option maxHeartbeats 4000000
/-! An error without fields of its own; isinstance of a caught error; except X of such a class. -/
namespace L2
open PySem PySem.Spec PyProof.Rows
structure NoneTxt (K : PySem.W.Frag) (mg : Str → Option Value) (x : Str) (C : Addr) : Prop where
  gC : mg x = some (.ref C)
  cls : ∃ nm q N bs bm sn sub ab col dd k0 k1 k2 k3 k5, K.lookup C = some (excClassObj nm q C N bs bm true sn sub ab col dd k0 k1 k2 k3 k5 "ValueError.__new__") ∧ PySem.HandSPX.refsVE bm = true
  iC : PySem.W.findIn K (.ref C) "__init__" = some (some (.builtin "ValueError.__init__"))
  kC : PySem.W.keepIn K (.ref C) = true
  exC : PySem.W.subIn K (.ref C) (.type "BaseException") = some true
  tyC : PySem.W.typeIn K (.ref C) = some (.type "type")
section
variable {X : Cx} {C : Addr} {x : Str}
theorem pmk_none {p pos : Pos} (T : NoneTxt X.K X.mg x C) (hg : Gl X x := by rfl) (hdb : (x == ("__debug__" : Str)) = false := by decide) : PMk X (.Call (.Name x p) [] [] pos) (fun σ H Q => Q (.ref C) none H) := by
  intro pins s σ H Q I h
  refine wpAny_Call_Name_kw (ld_glob I hg T.gC ?_ hdb)
  refine PySem.W.callWith_K0 I.kIn T.kC ?_
  show wpAny _ _ (call (.ref C) []) _ _ _
  obtain ⟨nm, q, N, bs, bm, sn, sub, ab, col, dd, k0, k1, k2, k3, k5, hC, hbm⟩ := T.cls
  have kin := I.kIn
  have bare := I.bare
  obtain ⟨hp, g, dr, tk, os⟩ := s
  refine PySem.W.call_B F.excBase_ValueError (fun X => PySem.HandSPX.refsVE_contains X bm hbm) (kin _ _ hC) (PySem.W.looks_findIn kin T.iC) (Nat.zero_le _) (fun h' k he ht => ?_)
  show MkP X pins σ Q (.ref (hp.objs.size + 1)) ⟨h', g, dr, tk, os⟩
  obtain ⟨G', g1, g2⟩ := restrict h' fun b => decide (b ≠ hp.objs.size + 1)
  have gk : ∀ b, b ≠ hp.objs.size + 1 → G'.get? b = h'.get? b := fun b hb => g1 b (decide_eq_true hb)
  have ge : G'.get? (hp.objs.size + 1) = none := g2 _ (by simp)
  have old : ∀ b o, hp.get? b = some o → G'.get? b = some o := fun b o q => (gk b (Nat.ne_of_lt (Nat.lt_succ_of_lt (Heap.lt_size q)))).trans (k b o q)
  have J : Inv X pins σ H ⟨G', g, dr, tk, os⟩ := I.kept (t' := tk) old
  refine ⟨hp.objs.size + 1, _, _, ⟨G', g, dr, tk, os⟩, _, .ref C, none, rfl, J, fun b o q => ?_, ge, he, ⟨rfl, rfl⟩, rfl, rfl, I.hok.fresh (Nat.le_succ _), rfl, bare, raises_own T.exC T.tyC, h⟩
  by_cases hb : b = hp.objs.size + 1
  · have q' : G'.get? b = some o := q
    rw [hb, ge] at q'; cases q'
  · exact (gk b hb).symm.trans q
/-- raise X() -/
theorem ps_raiseNone {W : WX} {p pos pos2 : Pos} (hc : X.calm = true) (T : NoneTxt X.K X.mg x C) (tk : Takes X W) (hg : Gl X x := by rfl) (hdb : (x == ("__debug__" : Str)) = false := by decide) :
    PS X (.Raise (some (.Call (.Name x p) [] [] pos)) none pos2) (fun _ σ H => W (.ref C) none σ H) := ps_raise hc tk (pmk_none T hg hdb)
/-- isinstance(e, c), e the exception that the suite holds -/
def rIsErr (K : PySem.W.Frag) (cls : Value) (d : Option Addr) (a : Addr) : List V → Hp → VK → Prop := fun xs H Q => ∃ (D : Addr) (c : V) (cv : Value) (b : Bool), cls = .ref D ∧ ExcC K D ∧ xs = [.ref a, c] ∧ (∀ u, RelV c u → u = cv) ∧ PySem.W.kitOne K (.ref D) cv = some b ∧ (∀ dd, d = some dd → ∃ fs, H dd = some (.xd fs)) ∧ Q (.bl b) H
theorem call_isErr {a : Addr} {oe : Obj} {cls : Value} {d : Option Addr} {pn : List (Addr × Obj)} (hz : Zc cls d oe) (hf : ∃ vs, oe.data = .fields vs) : CallR (X.suite a ((a, oe) :: pn)) (.builtin "isinstance") (rIsErr X.K cls d a) := by
  intro pins s σ H xs us Q I r h
  obtain ⟨D, c, cv, b, ec, C, rfl, hcv, e, hd, q⟩ := h
  subst ec
  cases r with
  | cons rx rr =>
    cases rr with
    | cons rt rr =>
      cases rr
      cases rx
      have ec := hcv _ rt
      subst ec
      obtain ⟨hget, _⟩ := I.pin (a, oe) (List.mem_append.mpr (.inl List.mem_cons_self))
      obtain ⟨vs, hv⟩ := hf
      have J : ∃ od, PySem.W.InstAt s.heap a oe D od := by
        cases d with
        | none => exact ⟨none, hget, hz.1, by unfold PySem.W.notCls; rw [hv] <;> rfl, by rw [hz.2]; trivial⟩
        | some dd =>
          obtain ⟨fs, hfs⟩ := hd dd rfl
          have hx : ObjOk X.prog X.w H s.heap dd (.xd fs) := I.hok dd _ hfs
          obtain ⟨mA, ⟨od, _, _, ho, _⟩, _⟩ := hx
          exact ⟨some od, hget, hz.1, by unfold PySem.W.notCls; rw [hv] <;> rfl, by rw [hz.2]; exact ho⟩
      obtain ⟨od, J⟩ := J
      exact PySem.W.kia_one (PySem.W.kitx_exc (by obtain ⟨cd, hc, _⟩ := PySem.W.any_some C.hd; rw [hc]; rfl) C.hg C.hk C.hs C.ha C.hn C.ht C.hm) I.kIn J e (fun z => nomatch z) fun tk => ⟨.bl b, H, I.kept (t' := tk) fun _ _ z => z, rfl, q⟩
end
end L2
set_option Elab.async false
set_option linter.all false
set_option maxRecDepth 100000
set_option maxHeartbeats 4000000
/-! k09: the text by places. -/
namespace LW
open PySem L2
def top (i : Nat) : Stmt := PySem.Challenge.pw_scanladder_k09_errors.main.body.getD i (.Pass ⟨0, 0, 0, 0⟩)
abbrev sTaken : Stmt := top 13
abbrev sPick : Stmt := top 14
abbrev sAlike : Stmt := top 15
abbrev sRaised : Stmt := top 16
abbrev sLaw : Stmt := top 17
end LW
set_option Elab.async false
set_option linter.all false
set_option maxRecDepth 100000
set_option maxHeartbeats 4000000
/-! Data at any depth: what is told of a value stays told where all that was tracked stays. -/
namespace L2
open PySem PySem.Spec PyProof.Rows
theorem if_f {c : Bool} {A B : Prop} (hc : c = false) (h : B) : if c = true then A else B := by
  rw [if_neg (by rw [hc]; decide)]
  exact h
theorem if_t {c : Bool} {A B : Prop} (hc : c = true) (h : A) : if c = true then A else B := by
  rw [if_pos hc]
  exact h
section
variable {K : PySem.W.Frag} {H H' : Hp}
theorem Same.sqt {a : Addr} {xs : List V} (e : Same H H') (h : SqT K H a xs) : SqT K H' a xs := by
  rcases h with (h | ⟨o, h⟩) | h
  · exact .inl (.inl (e _ _ h))
  · exact .inl (.inr ⟨o, e _ _ h⟩)
  · exact .inr h
mutual
theorem Dp.mono (e : Same H H') : ∀ (d : PyData) (v : V), Dp K H v d → Dp K H' v d
  | .none, _, h => by cases h; exact .non
  | .bool b, _, h => by cases h; exact .bl b
  | .int i, _, h => by cases h; exact .int i
  | .str x, _, h => by cases h; exact .str x
  | .list ds, _, h => by
    cases h with
    | lst s all => exact .lst (e.seq s) (DpAll.mono e ds _ all)
  | .tuple ds, _, h => by
    cases h with
    | tup s all => exact .tup (e.sqt s) (DpAll.mono e ds _ all)
  | .dict _, _, h => by cases h
theorem DpAll.mono (e : Same H H') : ∀ (ds : List PyData) (vs : List V), DpAll K H vs ds → DpAll K H' vs ds
  | [], _, h => by cases h; exact .nil
  | d :: ds, _, h => by
    cases h with
    | cons a b => exact .cons (Dp.mono e d _ a) (DpAll.mono e ds _ b)
end
theorem DpAll.length : ∀ {vs : List V} {ds : List PyData}, DpAll K H vs ds → vs.length = ds.length
  | _, _, .nil => rfl
  | _, _, .cons _ b => by rw [List.length_cons, List.length_cons, DpAll.length b]
theorem DpAll.get : ∀ {vs : List V} {ds : List PyData} {i : Nat} {d : PyData}, DpAll K H vs ds → ds[i]? = some d → ∃ v, vs[i]? = some v ∧ Dp K H v d
  | _, _, i, d, .nil, h => by simp at h
  | _, _, 0, d, .cons (v := v) a b, h => by
    simp at h
    subst h
    exact ⟨v, rfl, a⟩
  | _, _, i + 1, d, .cons (v := v) a b, h => by
    have h' : _ := h
    rw [List.getElem?_cons_succ] at h'
    obtain ⟨u, hu, du⟩ := DpAll.get b h'
    exact ⟨u, by rw [List.getElem?_cons_succ]; exact hu, du⟩
theorem DpAll.of_forall : ∀ {vs : List V} {ds : List PyData}, vs.length = ds.length → (∀ (i : Nat) (v : V) (d : PyData), vs[i]? = some v → ds[i]? = some d → Dp K H v d) → DpAll K H vs ds
  | [], [], _, _ => .nil
  | [], _ :: _, h, _ => by simp at h
  | _ :: _, [], h, _ => by simp at h
  | v :: vs, d :: ds, h, k => .cons (k 0 v d rfl rfl) (DpAll.of_forall (by simpa using h) fun i v d hv hd => k (i + 1) v d (by rw [List.getElem?_cons_succ]; exact hv) (by rw [List.getElem?_cons_succ]; exact hd))
theorem dp_all2 {x y : V} {d e : PyData} (h : Dp K H x d) (g : Dp K H y e) : DpAll K H [x, y] [d, e] := .cons h (.cons g .nil)
theorem dp_ints : ∀ (ns : List Int), DpAll K H (ns.map V.int) (ns.map PyData.int)
  | [] => .nil
  | n :: ns => .cons (.int n) (dp_ints ns)
theorem lay_all : ∀ (ds : List PyData), (∀ d ∈ ds, d.canLay0 = true) → PyData.canLayAll0 ds = true
  | [], _ => by simp [PyData.canLayAll0]
  | d :: ds, h => by simp [PyData.canLayAll0, h d List.mem_cons_self, lay_all ds fun x hx => h x (List.mem_cons_of_mem _ hx)]
theorem all_lay : ∀ {ds : List PyData}, PyData.canLayAll0 ds = true → ∀ d ∈ ds, d.canLay0 = true
  | [], _, d, h => by cases h
  | x :: ds, h, d, hd => by
    simp [PyData.canLayAll0] at h
    rcases List.mem_cons.mp hd with rfl | hd
    · exact h.1
    · exact all_lay h.2 d hd
theorem depth_all : ∀ {ds : List PyData} {d : PyData}, d ∈ ds → d.depth ≤ PyData.depthAll ds
  | x :: ds, d, hd => by
    simp only [PyData.depthAll]
    rcases List.mem_cons.mp hd with rfl | hd
    · exact Nat.le_max_left _ _
    · exact Nat.le_trans (depth_all hd) (Nat.le_max_right _ _)
theorem depthAll_le {n : Nat} : ∀ {ds : List PyData}, (∀ d ∈ ds, d.depth ≤ n) → PyData.depthAll ds ≤ n
  | [], _ => Nat.zero_le _
  | x :: ds, h => by
    simp only [PyData.depthAll]
    exact Nat.max_le.mpr ⟨h x List.mem_cons_self, depthAll_le fun d hd => h d (List.mem_cons_of_mem _ hd)⟩
/-- data without dicts, fewer than n levels, no list above a million -/
def okd : Nat → PyData → Prop
  | 0, _ => False
  | n + 1, .list ds => ds.length ≤ 1000000 ∧ ∀ e ∈ ds, okd n e
  | n + 1, .tuple ds => ds.length ≤ 1000000 ∧ ∀ e ∈ ds, okd n e
  | _ + 1, .dict _ => False
  | _ + 1, .str z => PyData.strOk z = true
  | _ + 1, _ => True
theorem okd_succ : ∀ {n : Nat} {d : PyData}, okd n d → okd (n + 1) d
  | n + 1, .list ds, h => ⟨h.1, fun e he => okd_succ (h.2 e he)⟩
  | n + 1, .tuple ds, h => ⟨h.1, fun e he => okd_succ (h.2 e he)⟩
  | n + 1, .none, _ => trivial
  | n + 1, .bool _, _ => trivial
  | n + 1, .int _, _ => trivial
  | n + 1, .str _, h => h
theorem okd_le {m n : Nat} {d : PyData} (h : okd m d) (l : m ≤ n) : okd n d := by
  induction l with
  | refl => exact h
  | step _ ih => exact okd_succ ih
theorem okd_tup2 {n : Nat} {d e : PyData} (h : okd n d) (g : okd n e) : okd (n + 1) (.tuple [d, e]) := ⟨(by show 2 ≤ 1000000; decide), fun x hx => by
  rcases List.mem_cons.mp hx with rfl | hx
  · exact h
  rcases List.mem_cons.mp hx with rfl | hx
  · exact g
  · cases hx⟩
theorem okd_lay : ∀ {n : Nat} {d : PyData}, okd n d → d.canLay0 = true
  | n + 1, .list ds, h => by
    simp only [PyData.canLay0]
    exact lay_all _ fun e he => okd_lay (h.2 e he)
  | n + 1, .tuple ds, h => by
    simp only [PyData.canLay0]
    exact lay_all _ fun e he => okd_lay (h.2 e he)
  | n + 1, .none, _ => by simp [PyData.canLay0]
  | n + 1, .bool _, _ => by simp [PyData.canLay0]
  | n + 1, .int _, _ => by simp [PyData.canLay0]
  | n + 1, .str _, h => by
    simp only [PyData.canLay0]
    exact h
theorem okd_depth : ∀ {n : Nat} {d : PyData}, okd n d → d.depth ≤ n
  | n + 1, .list ds, h => by
    simp only [PyData.depth]
    have : PyData.depthAll ds ≤ n := depthAll_le fun e he => okd_depth (h.2 e he)
    omega
  | n + 1, .tuple ds, h => by
    simp only [PyData.depth]
    have : PyData.depthAll ds ≤ n := depthAll_le fun e he => okd_depth (h.2 e he)
    omega
  | n + 1, .none, _ => by simp [PyData.depth]
  | n + 1, .bool _, _ => by simp [PyData.depth]
  | n + 1, .int _, _ => by simp [PyData.depth]
  | n + 1, .str _, _ => by simp [PyData.depth]
theorem shaped_mk {d : PyData} (h1 : d.canLay0 = true) (h2 : d.depth ≤ 64) : SeqAt.shaped d = true := by
  show (d.canLay0 && decide (d.depth ≤ 64)) = true
  rw [Bool.and_eq_true]
  exact ⟨h1, decide_eq_true h2⟩
theorem okd_shaped {n : Nat} {d : PyData} (h : okd n d) (hn : n ≤ 64) : SeqAt.shaped d = true := shaped_mk (okd_lay h) (Nat.le_trans (okd_depth h) hn)
theorem shaped_ints (ns : List Int) : SeqAt.shaped (.list (ns.map PyData.int)) = true := by
  refine shaped_mk ?_ ?_
  · show PyData.canLay0 (.list (ns.map PyData.int)) = true
    simp only [PyData.canLay0]
    exact lay_all _ fun d hd => by
      obtain ⟨n, _, rfl⟩ := List.mem_map.mp hd
      simp [PyData.canLay0]
  · simp only [PyData.depth]
    have : PyData.depthAll (ns.map PyData.int) ≤ 0 := depthAll_le fun d hd => by
      obtain ⟨n, _, rfl⟩ := List.mem_map.mp hd
      simp [PyData.depth]
    omega
theorem dp_lay : ∀ (d : PyData) (v : V), Dp K H v d → SeqAt.shaped d = true → PyData.eqv d d = true := fun d v _ s => SeqAt.eqv_refl d (SeqAt.canLay_of_shaped s)
/-- what never changes: tuples, locked things -/
def isImm : HO → Bool
  | .tup _ => true
  | .frz _ _ => true
  | _ => false
/-- all that never changes stands -/
def Imk (H H' : Hp) : Prop := ∀ b o, isImm o = true → H b = some o → H' b = some o
theorem Imk.refl (H : Hp) : Imk H H := fun _ _ _ h => h
theorem Imk.trans {H H1 H2 : Hp} (a : Imk H H1) (b : Imk H1 H2) : Imk H H2 := fun c o i h => b c o i (a c o i h)
theorem Same.kt {H H' : Hp} (e : Same H H') : Imk H H' := fun b o _ h => e b o h
theorem Imk.put {H : Hp} {p : Addr} {o u : HO} (h : H p = some u) (hu : isImm u = false) : Imk H (upd H p o) := fun b v i e => by
  by_cases q : b = p
  · rw [q, h] at e
    cases e
    rw [hu] at i
    cases i
  · rw [upd_ne q]
    exact e
theorem Imk.new {H : Hp} {p : Addr} {o : HO} (h : H p = none) : Imk H (upd H p o) := fun b v i e => by
  rw [upd_ne (ne_of_none e h)]
  exact e
theorem Imk.sqt {H H' : Hp} {a : Addr} {xs : List V} (e : Imk H H') (h : SqT K H a xs) : SqT K H' a xs := by
  rcases h with (h | ⟨o, h⟩) | h
  · exact .inl (.inl (e _ _ rfl h))
  · exact .inl (.inr ⟨o, e _ _ rfl h⟩)
  · exact .inr h
mutual
/-- data without lists -/
def frozen : PyData → Bool
  | .list _ => false
  | .dict _ => false
  | .tuple ds => frozenAll ds
  | _ => true
def frozenAll : List PyData → Bool
  | [] => true
  | d :: ds => frozen d && frozenAll ds
end
mutual
theorem Dp.keep (e : Imk H H') : ∀ (d : PyData) (v : V), frozen d = true → Dp K H v d → Dp K H' v d
  | .none, _, _, h => by cases h; exact .non
  | .bool b, _, _, h => by cases h; exact .bl b
  | .int i, _, _, h => by cases h; exact .int i
  | .str x, _, _, h => by cases h; exact .str x
  | .list _, _, f, _ => by simp [frozen] at f
  | .tuple ds, _, f, h => by
    cases h with
    | tup s all => exact .tup (e.sqt s) (DpAll.keep e ds _ (by simpa [frozen] using f) all)
  | .dict _, _, _, h => by cases h
theorem DpAll.keep (e : Imk H H') : ∀ (ds : List PyData) (vs : List V), frozenAll ds = true → DpAll K H vs ds → DpAll K H' vs ds
  | [], _, _, h => by cases h; exact .nil
  | d :: ds, _, f, h => by
    simp [frozenAll] at f
    cases h with
    | cons a b => exact .cons (Dp.keep e d _ f.1 a) (DpAll.keep e ds _ f.2 b)
end
/-- a list, a tuple: its class -/
theorem tyx_l {a : Addr} {xs : List V} (h : SqL K H a xs) : TyX K H (.ref a) (.type "list") := by
  rcases h with (h | ⟨o, h⟩) | ⟨o, its, n, h, c, _⟩
  · exact .base (.lst h)
  · exact .base (.frz h)
  · exact .kList h c
theorem tyx_t {a : Addr} {xs : List V} (h : SqT K H a xs) : TyX K H (.ref a) (.type "tuple") := by
  rcases h with (h | ⟨o, h⟩) | ⟨o, its, n, h, c, _⟩
  · exact .base (.tup h)
  · exact .fTuple h
  · exact .kTuple h c
def tyName : PyData → String
  | .none => "NoneType" | .bool _ => "bool" | .int _ => "int" | .str _ => "str" | .list _ => "list" | .tuple _ => "tuple" | .dict _ => "dict"
theorem tyx_d {v : V} {d : PyData} (h : Dp K H v d) : TyX K H v (.type (tyName d)) := by
  cases h with
  | non => exact .base .non
  | bl b => exact .base (.bl b)
  | int i => exact .base (.int i)
  | str x => exact .base (.str x)
  | lst s _ => exact tyx_l s
  | tup s _ => exact tyx_t s
def isSeq : PyData → Bool
  | .list _ | .tuple _ => true
  | _ => false
def isLst : PyData → Bool
  | .list _ => true
  | _ => false
def isStr : PyData → Bool
  | .str _ => true
  | _ => false
def isInt : PyData → Bool
  | .int _ | .bool _ => true
  | _ => false
def isBool : PyData → Bool
  | .bool _ => true
  | _ => false
def isTup : PyData → Bool
  | .tuple _ => true
  | _ => false
theorem kit_seq : ∀ d : PyData, PySem.W.kitAny K (.type (tyName d)) [.type "tuple", .type "list"] = some (isSeq d)
  | .none => kitAny_cons (kit_ty (show kitB "NoneType" "tuple" = some false by decide +kernel)) (fun _ => kitAny_cons (kit_ty (show kitB "NoneType" "list" = some false by decide +kernel)) (fun _ => kitAny_nil) fun h => nomatch h) fun h => nomatch h
  | .bool _ => kitAny_cons (kit_ty (show kitB "bool" "tuple" = some false by decide +kernel)) (fun _ => kitAny_cons (kit_ty (show kitB "bool" "list" = some false by decide +kernel)) (fun _ => kitAny_nil) fun h => nomatch h) fun h => nomatch h
  | .int _ => kitAny_cons (kit_ty (show kitB "int" "tuple" = some false by decide +kernel)) (fun _ => kitAny_cons (kit_ty (show kitB "int" "list" = some false by decide +kernel)) (fun _ => kitAny_nil) fun h => nomatch h) fun h => nomatch h
  | .str _ => kitAny_cons (kit_ty (show kitB "str" "tuple" = some false by decide +kernel)) (fun _ => kitAny_cons (kit_ty (show kitB "str" "list" = some false by decide +kernel)) (fun _ => kitAny_nil) fun h => nomatch h) fun h => nomatch h
  | .list _ => kitAny_cons (kit_ty (show kitB "list" "tuple" = some false by decide +kernel)) (fun _ => kitAny_cons (kit_ty (show kitB "list" "list" = some true by decide +kernel)) (fun h => nomatch h) fun _ => rfl) fun h => nomatch h
  | .tuple _ => kitAny_cons (kit_ty (show kitB "tuple" "tuple" = some true by decide +kernel)) (fun h => nomatch h) fun _ => rfl
  | .dict _ => kitAny_cons (kit_ty (show kitB "dict" "tuple" = some false by decide +kernel)) (fun _ => kitAny_cons (kit_ty (show kitB "dict" "list" = some false by decide +kernel)) (fun _ => kitAny_nil) fun h => nomatch h) fun h => nomatch h
theorem kit_lst : ∀ d : PyData, PySem.W.kitOne K (.type (tyName d)) (.type "list") = some (isLst d)
  | .none => kit_ty (show kitB "NoneType" "list" = some false by decide +kernel)
  | .bool _ => kit_ty (show kitB "bool" "list" = some false by decide +kernel)
  | .int _ => kit_ty (show kitB "int" "list" = some false by decide +kernel)
  | .str _ => kit_ty (show kitB "str" "list" = some false by decide +kernel)
  | .list _ => kit_ty (show kitB "list" "list" = some true by decide +kernel)
  | .tuple _ => kit_ty (show kitB "tuple" "list" = some false by decide +kernel)
  | .dict _ => kit_ty (show kitB "dict" "list" = some false by decide +kernel)
theorem kit_str : ∀ d : PyData, PySem.W.kitOne K (.type (tyName d)) (.type "str") = some (isStr d)
  | .none => kit_ty (show kitB "NoneType" "str" = some false by decide +kernel)
  | .bool _ => kit_ty (show kitB "bool" "str" = some false by decide +kernel)
  | .int _ => kit_ty (show kitB "int" "str" = some false by decide +kernel)
  | .str _ => kit_ty (show kitB "str" "str" = some true by decide +kernel)
  | .list _ => kit_ty (show kitB "list" "str" = some false by decide +kernel)
  | .tuple _ => kit_ty (show kitB "tuple" "str" = some false by decide +kernel)
  | .dict _ => kit_ty (show kitB "dict" "str" = some false by decide +kernel)
theorem kit_int : ∀ d : PyData, PySem.W.kitOne K (.type (tyName d)) (.type "int") = some (isInt d)
  | .none => kit_ty (show kitB "NoneType" "int" = some false by decide +kernel)
  | .bool _ => kit_ty (show kitB "bool" "int" = some true by decide +kernel)
  | .int _ => kit_ty (show kitB "int" "int" = some true by decide +kernel)
  | .str _ => kit_ty (show kitB "str" "int" = some false by decide +kernel)
  | .list _ => kit_ty (show kitB "list" "int" = some false by decide +kernel)
  | .tuple _ => kit_ty (show kitB "tuple" "int" = some false by decide +kernel)
  | .dict _ => kit_ty (show kitB "dict" "int" = some false by decide +kernel)
theorem kit_bool : ∀ d : PyData, PySem.W.kitOne K (.type (tyName d)) (.type "bool") = some (isBool d)
  | .none => kit_ty (show kitB "NoneType" "bool" = some false by decide +kernel)
  | .bool _ => kit_ty (show kitB "bool" "bool" = some true by decide +kernel)
  | .int _ => kit_ty (show kitB "int" "bool" = some false by decide +kernel)
  | .str _ => kit_ty (show kitB "str" "bool" = some false by decide +kernel)
  | .list _ => kit_ty (show kitB "list" "bool" = some false by decide +kernel)
  | .tuple _ => kit_ty (show kitB "tuple" "bool" = some false by decide +kernel)
  | .dict _ => kit_ty (show kitB "dict" "bool" = some false by decide +kernel)
theorem kit_tup : ∀ d : PyData, PySem.W.kitOne K (.type (tyName d)) (.type "tuple") = some (isTup d)
  | .none => kit_ty (show kitB "NoneType" "tuple" = some false by decide +kernel)
  | .bool _ => kit_ty (show kitB "bool" "tuple" = some false by decide +kernel)
  | .int _ => kit_ty (show kitB "int" "tuple" = some false by decide +kernel)
  | .str _ => kit_ty (show kitB "str" "tuple" = some false by decide +kernel)
  | .list _ => kit_ty (show kitB "list" "tuple" = some false by decide +kernel)
  | .tuple _ => kit_ty (show kitB "tuple" "tuple" = some true by decide +kernel)
  | .dict _ => kit_ty (show kitB "dict" "tuple" = some false by decide +kernel)
theorem same_new {p : Addr} {o : HO} (h : H p = none) : Same H (upd H p o) := fun b u e => by
  rw [upd_ne (ne_of_none e h)]
  exact e
end
end L2
set_option Elab.async false
set_option linter.all false
set_option maxRecDepth 100000
set_option maxHeartbeats 4000000
/-! The draws: _law_taken, _law_pick. -/
namespace LW
open PySem L2
/-- the draws' row at r: the script at a, then three ints -/
def RowI (K : PySem.W.Frag) (a r : Addr) (H : Hp) : Prop := ∃ (i s c : Int), H r = some (.lst [.ref a, .int i, .int s, .int c]) ∧ 0 ≤ i ∧ 0 ≤ c ∧ ∃ ns : List Int, SqL K H a (ns.map V.int)
/-- all but what stands at r is as it was -/
def But (r : Addr) (H H' : Hp) : Prop := ∀ b, b ≠ r → H' b = H b
def spTaken (K : PySem.W.Frag) : Sp := fun vs H Q _ => ∃ (a r : Addr) (m : Int), vs = [.ref r, .int m] ∧ RowI K a r H ∧ 0 < m ∧ m < 1073741824 ∧
  ∀ (k : Int) (H' : Hp), 0 ≤ k → k < m → But r H H' → RowI K a r H' → Q (.int k) H'
def spPick (K : PySem.W.Frag) : Sp := fun vs H Q _ => ∃ (a r p : Addr) (xs : List V), vs = [.ref r, .ref p] ∧ RowI K a r H ∧ H p = some (.lst xs) ∧ p ≠ r ∧ 0 < xs.length ∧ xs.length < 1073741824 ∧
  ∀ (v : V) (H' : Hp), v ∈ xs → But r H H' → RowI K a r H' → Q v H'
structure TxtD (K : PySem.W.Frag) (mg : Str → Option Value) (fT : Addr) : Prop where
  int : mg "int" = none
  len : mg "len" = none
  gT : mg "_law_taken" = some (.ref fT)
  kT : PySem.W.keepIn K (.ref fT) = true
theorem But.sql {K : PySem.W.Frag} {r a : Addr} {H H' : Hp} {ns : List Int} {rest : List V} (b : But r H H') (hr : H r = some (.lst (.ref a :: rest))) (h : SqL K H a (ns.map V.int)) : SqL K H' a (ns.map V.int) := by
  rcases h with (h | ⟨o, h⟩) | h
  · have n : a ≠ r := fun z => by
      rw [z, hr] at h
      cases ns with
      | nil => cases h
      | cons n ns => cases h
    exact .inl (.inl ((b a n).trans h))
  · have n : a ≠ r := fun z => by
      rw [z, hr] at h
      cases h
    exact .inl (.inr ⟨o, (b a n).trans h⟩)
  · exact .inr h
theorem But.kt {r : Addr} {H H' : Hp} {u : HO} (b : But r H H') (h : H r = some u) (hu : isImm u = false) : Imk H H' := fun c o i e => by
  have n : c ≠ r := fun z => by
    rw [z, h] at e
    cases e
    rw [hu] at i
    cases i
  exact (b c n).trans e
theorem But.keep {r : Addr} {H H' : Hp} (b : But r H H') {c : Addr} {o : HO} (n : c ≠ r) (h : H c = some o) : H' c = some o := (b c n).trans h
theorem RowI.same {K : PySem.W.Frag} {a r : Addr} {H H' : Hp} (h : RowI K a r H) (e : Same H H') : RowI K a r H' := by
  obtain ⟨i, s, c, h1, h2, h3, ns, h4⟩ := h
  exact ⟨i, s, c, e _ _ h1, h2, h3, ns, e.seq h4⟩
theorem RowI.some {K : PySem.W.Frag} {a r : Addr} {H : Hp} (h : RowI K a r H) : ∃ xs, H r = some (.lst xs) := by
  obtain ⟨i, s, c, h1, _⟩ := h
  exact ⟨_, h1⟩
theorem But.ktR {K : PySem.W.Frag} {a r : Addr} {H H' : Hp} (b : But r H H') (h : RowI K a r H) : Imk H H' := by
  obtain ⟨xs, hx⟩ := h.some
  exact b.kt hx rfl
theorem but_upd {r : Addr} {H : Hp} {o : HO} : But r H (upd H r o) := fun b hb => upd_ne hb
theorem but_upd2 {r : Addr} {H H' : Hp} {o : HO} (h : But r H H') : But r H (upd H' r o) := fun b hb => (upd_ne hb).trans (h b hb)
theorem But.refl {r : Addr} {H : Hp} : But r H H := fun _ _ => rfl
section
variable {P : Program} {w : World} {K : PySem.W.Frag} {mg : Str → Option Value} {base : Heap}
theorem scT : FnScope ["row", "many", "found", "cell"] ["row", "many"] (defScope sTaken) := ⟨rfl, rfl, rfl, by decide +kernel, rfl, by decide +kernel, by decide +kernel⟩
theorem ok_taken {f fT : Addr} {fd : FuncData} (F : Fun K "_law_taken" "_law_taken" sTaken f fd) (T : TxtD K mg fT) : FnOk P w K mg base CX0 1 f fd ["row", "many"] (spTaken K) := by
  refine F.ok scT (fun vs H Q E h => ?_) (fun cdv A outer s H vs Q E hr h => ?_)
  · obtain ⟨a, r, m, rfl, _⟩ := h
    rfl
  · obtain ⟨a, r, m, rfl, ⟨i, sd, c, hrow, hi, hc, ns, hS⟩, m0, m1, k⟩ := h
    have cm : CDiv 0 m := ⟨m0, m1⟩
    refine ⟨_, pss_cons (ps_if (pt_cmpR op_gt (pe_ix ix_list (pv 0) pe_int (fun _ _ => rfl)) pe_int (nomark _))
        (pss_cons (ps_set (i := 2) scT.nd rfl (.inl rfl) (pe_op op_mod (pe_callTy call_int1 (by rfl) T.int (by decide +kernel) (pa_cons (pe_ix ix_list (pv 0) pe_int (fun _ _ => rfl)) pa_nil)) (pv 1)))
        (pss_cons (ps_asg (pe_op op_fdiv (pe_ix ix_list (pv 0) pe_int (fun _ _ => rfl)) (pv 1)) (pg_sub (pv 0) pe_int set_list))
        (pss_one (ps_ret (pv 2))))) pss_nil)
      (pss_cons (ps_asg (pe_op op_add (pe_ix ix_list (pv 0) pe_int (fun _ _ => rfl)) pe_int) (pg_sub (pv 0) pe_int set_list))
      (pss_cons (ps_if (pt_cmpR op_gt (pe_ix ix_list (pv 0) pe_int (fun _ _ => rfl)) (pe_callB call_len_seq (by rfl) T.len PySem.boot_len (pa_cons (pe_ix ix_list (pv 0) pe_int (fun _ _ => rfl)) pa_nil)) (nomark _))
        (pss_cons (ps_asg (pe_op op_mod (pe_callTy call_int1 (by rfl) T.int (by decide +kernel) (pa_cons (pe_op op_add (pe_op op_mul (pe_ix ix_list (pv 0) pe_int (fun _ _ => rfl)) pe_int) pe_int) pa_nil)) pe_int) (pg_sub (pv 0) pe_int set_list))
        (pss_one (ps_ret (pe_op op_mod (pe_callTy call_int1 (by rfl) T.int (by decide +kernel) (pa_cons (pe_op op_fdiv (pe_ix ix_list (pv 0) pe_int (fun _ _ => rfl)) pe_int) pa_nil)) (pv 1))))) pss_nil)
      (pss_cons (ps_set (i := 3) scT.nd rfl (.inl rfl) (pe_ix ix_list (pe_ix ix_list (pv 0) pe_int (fun _ _ => rfl)) (pe_op op_sub (pe_ix ix_list (pv 0) pe_int (fun _ _ => rfl)) pe_int) (fun _ _ => rfl)))
      (pss_cons (ps_asg (pe_op op_mod (pe_callTy call_int1 (by rfl) T.int (by decide +kernel) (pa_cons (pe_op op_add (pe_op op_add (pe_op op_mul (pe_ix ix_list (pv 0) pe_int (fun _ _ => rfl)) pe_int) (pv 3)) pe_int) pa_nil)) pe_int) (pg_sub (pv 0) pe_int set_list))
      (pss_cons (ps_if (pt_cmpR op_ge (pv 3) (pe_op op_pow pe_int pe_int) (nomark _))
        (pss_one (ps_asg (pe_op op_fdiv (pv 3) (pv 1)) (pg_sub (pv 0) pe_int set_list))) pss_nil)
      (pss_one (ps_ret (pe_op op_mod (pe_callTy call_int1 (by rfl) T.int (by decide +kernel) (pa_cons (pv 3) pa_nil)) (pv 1))))))))), ?_⟩
    refine ⟨_, rfl, r, _, _, _, rfl, rfl, SqL.of hrow, rfl, _, _, rfl, rfl, _, rfl, ?_⟩
    refine ite2 (fun h0 => ?_) (fun h0 => ?_)
    · refine ⟨_, rfl, r, _, _, _, rfl, rfl, SqL.of hrow, rfl, .inl ⟨_, rfl, _, rfl, _, _, rfl, rfl, m0, ?_⟩⟩
      refine ⟨_, rfl, r, _, _, _, rfl, rfl, SqL.of hrow, rfl, _, rfl, _, _, rfl, rfl, cm, ?_⟩
      refine ⟨_, rfl, r, _, _, _, rfl, rfl, hrow, rfl, ?_⟩
      refine ⟨_, rfl, k _ _ (Int.emod_nonneg _ (Int.ne_of_gt m0)) (Int.emod_lt_of_pos _ m0) but_upd ⟨i, sd, c / m, upd_same, hi, Int.ediv_nonneg hc (Int.le_of_lt m0), ns, but_upd.sql hrow hS⟩⟩
    · refine ⟨_, rfl, r, _, _, _, rfl, rfl, SqL.of hrow, rfl, _, _, rfl, rfl, ?_⟩
      refine ⟨_, rfl, r, _, _, _, rfl, rfl, hrow, rfl, ?_⟩
      have b1 : But r H (upd H r (.lst [.ref a, .int (i + 1), .int sd, .int c])) := but_upd
      refine ⟨_, rfl, r, _, _, _, rfl, rfl, SqL.of upd_same, rfl, ?_⟩
      refine ⟨_, rfl, r, _, _, _, rfl, rfl, SqL.of upd_same, rfl, ?_⟩
      refine ⟨a, _, rfl, .inl (b1.sql hrow hS), _, _, rfl, rfl, _, rfl, ?_⟩
      refine ite2 (fun h1 => ?_) (fun h1 => ?_)
      · refine ⟨_, rfl, r, _, _, _, rfl, rfl, SqL.of upd_same, rfl, _, _, rfl, rfl, .inr (by decide), _, _, rfl, rfl, .inl ⟨_, rfl, _, _, rfl, rfl, (by show (0 : Int) < 2147483647; decide), ?_⟩⟩
        refine ⟨_, rfl, r, _, _, _, rfl, rfl, upd_same, rfl, ?_⟩
        refine ⟨_, rfl, r, _, _, _, rfl, rfl, SqL.of upd_same, rfl, _, _, rfl, rfl, (by show CDiv _ 7; exact ⟨by decide, by decide⟩), .inl ⟨_, rfl, _, rfl, _, _, rfl, rfl, m0, ?_⟩⟩
        exact k _ _ (Int.emod_nonneg _ (Int.ne_of_gt m0)) (Int.emod_lt_of_pos _ m0) (but_upd2 b1) ⟨i + 1, _, c, upd_same, by omega, hc, ns, (but_upd2 b1).sql hrow hS⟩
      · have h1' : ¬ ((ns.map V.int).length : Int) < i + 1 := by
          intro z
          exact h1 (decide_eq_true z)
        have hlt : i.toNat < ns.length := by
          rw [List.length_map] at h1'
          omega
        have cell : atI (ns.map V.int) (i + 1 - 1) = some (V.int (ns[i.toNat])) := by
          have e : i + 1 - 1 = ((i.toNat : Nat) : Int) := by omega
          rw [e]
          exact atI_nat (by rw [List.getElem?_map, List.getElem?_eq_getElem hlt]; rfl)
        refine ⟨_, rfl, r, _, _, _, rfl, rfl, SqL.of upd_same, rfl, ?_⟩
        refine ⟨_, rfl, r, _, _, _, rfl, rfl, SqL.of upd_same, rfl, _, _, rfl, rfl, a, _, _, _, rfl, rfl, b1.sql hrow hS, cell, ?_⟩
        generalize ns[i.toNat] = z
        refine ⟨_, rfl, r, _, _, _, rfl, rfl, SqL.of upd_same, rfl, _, _, rfl, rfl, .inr (by decide), _, rfl, _, _, rfl, rfl, _, _, rfl, rfl, .inl ⟨_, rfl, _, _, rfl, rfl, (by show (0 : Int) < 2147483647; decide), ?_⟩⟩
        refine ⟨_, rfl, r, _, _, _, rfl, rfl, upd_same, rfl, ?_⟩
        refine ⟨_, rfl, _, _, rfl, rfl, (by show CPow 10 18; exact ⟨by decide, by decide, by decide⟩), _, _, rfl, rfl, _, rfl, ?_⟩
        refine ite2 (fun h2 => ?_) (fun h2 => ?_)
        · have h2' : (10 : Int) ^ (18 : Int).toNat ≤ z := of_decide_eq_true h2
          have hz : 0 ≤ z := Int.le_trans (by decide) h2'
          refine ⟨_, rfl, _, rfl, _, _, rfl, rfl, cm, ?_⟩
          refine ⟨_, rfl, r, _, _, _, rfl, rfl, upd_same, rfl, ?_⟩
          refine ⟨_, rfl, .inl ⟨_, rfl, _, rfl, _, _, rfl, rfl, m0, ?_⟩⟩
          exact k _ _ (Int.emod_nonneg _ (Int.ne_of_gt m0)) (Int.emod_lt_of_pos _ m0) (but_upd2 (but_upd2 b1)) ⟨i + 1, _, z / m, upd_same, by omega, Int.ediv_nonneg hz (Int.le_of_lt m0), ns, (but_upd2 (but_upd2 b1)).sql hrow hS⟩
        · refine ⟨_, rfl, .inl ⟨_, rfl, _, rfl, _, _, rfl, rfl, m0, ?_⟩⟩
          exact k _ _ (Int.emod_nonneg _ (Int.ne_of_gt m0)) (Int.emod_lt_of_pos _ m0) (but_upd2 b1) ⟨i + 1, _, c, upd_same, by omega, hc, ns, (but_upd2 b1).sql hrow hS⟩
theorem scP : FnScope ["row", "kinds"] ["row", "kinds"] (defScope sPick) := ⟨rfl, rfl, rfl, by decide +kernel, rfl, by decide +kernel, by decide +kernel⟩
theorem ok_pick {f fT : Addr} {fd fdT : FuncData} (F : Fun K "_law_pick" "_law_pick" sPick f fd) (T : TxtD K mg fT) (FT : Fun K "_law_taken" "_law_taken" sTaken fT fdT) (bT : Binds K fdT ["row", "many"] []) : FnOk P w K mg base CX0 2 f fd ["row", "kinds"] (spPick K) := by
  have GT : FnOk P w K mg base CX0 1 fT fdT ["row", "many"] (spTaken K) := ok_taken FT T
  refine F.ok scP (fun vs H Q E h => ?_) (fun cdv A outer s H vs Q E hr h => ?_)
  · obtain ⟨a, r, p, xs, rfl, _⟩ := h
    rfl
  · obtain ⟨a, r, p, xs, rfl, hR, hp, npr, l0, l1, k⟩ := h
    refine ⟨_, pss_one (ps_ret (pe_ix ix_list (pv 1) (pe_call GT hr rfl T.gT T.kT bT .nil pass0 (pa_cons (pv 0) (pa_cons (pe_callB call_len_seq (by rfl) T.len PySem.boot_len (pa_cons (pv 1) pa_nil)) pa_nil))) (fun _ _ => rfl))), ?_⟩
    refine ⟨_, rfl, _, rfl, _, rfl, p, xs, rfl, .inl (SqL.of hp), a, r, xs.length, rfl, hR, by omega, by omega, fun n H' n0 n1 hb hR' => ?_⟩
    have hp' : H' p = some (.lst xs) := (hb p npr).trans hp
    obtain ⟨j, rfl⟩ : ∃ j : Nat, n = (j : Int) := ⟨n.toNat, by omega⟩
    have hlt : j < xs.length := by omega
    exact ⟨p, xs, _, xs[j], rfl, rfl, SqL.of hp', atI_nat (by rw [List.getElem?_eq_getElem hlt]), k _ _ (List.getElem_mem hlt) hb hR'⟩
end
end LW
set_option Elab.async false
set_option linter.all false
set_option maxRecDepth 100000
set_option maxHeartbeats 4000000
/-! _law_alike, asked of two values that are the same data: True. -/
namespace LW
open PySem L2
def spAlike (K : PySem.W.Frag) (n : Nat) : Sp := fun vs H Q _ => ∃ (x y : V) (d : PyData), vs = [x, y] ∧ Dp K H x d ∧ Dp K H y d ∧ okd n d ∧ n ≤ 60 ∧ ∀ H', Same H H' → Q (.bl true) H'
structure TxtA (K : PySem.W.Frag) (mg : Str → Option Value) (fA : Addr) : Prop where
  isi : mg "isinstance" = none
  tup : mg "tuple" = none
  lst : mg "list" = none
  len : mg "len" = none
  rng : mg "range" = none
  str : mg "str" = none
  int : mg "int" = none
  bool : mg "bool" = none
  gA : mg "_law_alike" = some (.ref fA)
  kA : PySem.W.keepIn K (.ref fA) = true
section
variable {P : Program} {w : World} {K : PySem.W.Frag} {mg : Str → Option Value} {base : Heap}
theorem scA : FnScope ["found", "due", "k"] ["found", "due"] (defScope sAlike) := ⟨rfl, rfl, rfl, by decide +kernel, rfl, by decide +kernel, by decide +kernel⟩
theorem ok_alike {f fA : Addr} {fd : FuncData} (T : TxtA K mg fA) (F : Fun K "_law_alike" "_law_alike" sAlike fA fd) (bA : Binds K fd ["found", "due"] []) : ∀ n : Nat, FnOk P w K mg base CX0 (n + 1) fA fd ["found", "due"] (spAlike K n) := by
  intro n
  induction n with
  | zero =>
    refine F.ok scA (fun vs H Q E h => ?_) (fun cdv A outer s H vs Q E hr h => ?_)
    · obtain ⟨x, y, d, rfl, _⟩ := h
      rfl
    · obtain ⟨x, y, d, rfl, _, _, hd, _⟩ := h
      exact hd.elim
  | succ n ih =>
    refine F.ok scA (fun vs H Q E h => ?_) (fun cdv A outer s H vs Q E hr h => ?_)
    · obtain ⟨x, y, d, rfl, _⟩ := h
      rfl
    · obtain ⟨x, y, d, rfl, hx, hy, hd, hn, k⟩ := h
      refine ⟨_, pss_cons (ps_if (pt_val (pe_callB call_isiT (by rfl) T.isi (by decide +kernel) (pa_cons (pv 1) (pa_cons (pe_tup (pa_cons (pe_bltn (v := .ty "tuple") (by rfl) T.tup (by decide +kernel) rfl) (pa_cons (pe_bltn (v := .ty "list") (by rfl) T.lst (by decide +kernel) rfl) pa_nil))) pa_nil))))
          (pss_cons (ps_if (PW.pt (pw_or (pt_not (pt_val (pe_callB call_isiT (by rfl) T.isi (by decide +kernel) (pa_cons (pv 0) (pa_cons (pe_tup (pa_cons (pe_bltn (v := .ty "tuple") (by rfl) T.tup (by decide +kernel) rfl) (pa_cons (pe_bltn (v := .ty "list") (by rfl) T.lst (by decide +kernel) rfl) pa_nil))) pa_nil)))))
              (pw_or1 (pt_cmpR op_ne (pe_callB call_isi (by rfl) T.isi (by decide +kernel) (pa_cons (pv 0) (pa_cons (pe_bltn (v := .ty "list") (by rfl) T.lst (by decide +kernel) rfl) pa_nil))) (pe_callB call_isi (by rfl) T.isi (by decide +kernel) (pa_cons (pv 1) (pa_cons (pe_bltn (v := .ty "list") (by rfl) T.lst (by decide +kernel) rfl) pa_nil))) (nomark _)))))
            (pss_one (ps_ret pe_bl)) pss_nil)
          (pss_cons (ps_if (pt_cmpR op_ne (pe_callB call_len_seq (by rfl) T.len PySem.boot_len (pa_cons (pv 0) pa_nil)) (pe_callB call_len_seq (by rfl) T.len PySem.boot_len (pa_cons (pv 1) pa_nil)) (nomark _)) (pss_one (ps_ret pe_bl)) pss_nil)
          (pss_one (ps_ret (pe_cmpR (op_eqD hr.units) (pe_lc (own := [("k", 2)]) (g := gName 2) (by rfl) scA.nd (pi_range1 (by rfl) T.rng (pa_cons (pe_callB call_len_seq (by rfl) T.len PySem.boot_len (pa_cons (pv 1) pa_nil)) pa_nil)) (blkOk_by (own := [("k", 2)]) (N := ["found", "due", "k"]) (sc := defScope sAlike) (by decide +kernel))
            (fun _ _ _ _ _ => pg_name (i := 2) scA.nd rfl (.inl rfl))
            (fun _ _ _ _ _ => pts_one (pt_not (pt_val (pe_call ih hr (by rfl) T.gA T.kA bA .nil pass0 (pa_cons (pe_ix (r := rIx K) ix_seq (pv 0) (pv 2) (fun _ _ => rfl)) (pa_cons (pe_ix (r := rIx K) ix_seq (pv 1) (pv 2) (fun _ _ => rfl)) pa_nil))))))
            (fun _ _ _ _ _ => pv 2)) (pe_lst pa_nil) (nomark _)))))) pss_nil)
        (pss_cons (ps_if (PW.pt (pw_or (pt_cmpR op_isN (pv 1) pe_non (nomark _)) (pw_or1 (pt_val (pe_callB call_isi (by rfl) T.isi (by decide +kernel) (pa_cons (pv 1) (pa_cons (pe_bltn (v := .ty "str") (by rfl) T.str (by decide +kernel) rfl) pa_nil)))))))
          (pss_one (ps_ret (pe_and (pe_cmpR (op_eqD hr.units) (pv 0) (pv 1) (nomark _)) (pe_one (pe_cmpR op_eq (pe_callB call_isi (by rfl) T.isi (by decide +kernel) (pa_cons (pv 0) (pa_cons (pe_bltn (v := .ty "str") (by rfl) T.str (by decide +kernel) rfl) pa_nil))) (pe_callB call_isi (by rfl) T.isi (by decide +kernel) (pa_cons (pv 1) (pa_cons (pe_bltn (v := .ty "str") (by rfl) T.str (by decide +kernel) rfl) pa_nil))) (nomark _)))))) pss_nil)
        (pss_one (ps_ret (pe_and (pe_callB call_isi (by rfl) T.isi (by decide +kernel) (pa_cons (pv 0) (pa_cons (pe_bltn (v := .ty "int") (by rfl) T.int (by decide +kernel) rfl) pa_nil)))
          (pe_and (pe_cmpR op_eq (pe_callB call_isi (by rfl) T.isi (by decide +kernel) (pa_cons (pv 0) (pa_cons (pe_bltn (v := .ty "bool") (by rfl) T.bool (by decide +kernel) rfl) pa_nil))) (pe_callB call_isi (by rfl) T.isi (by decide +kernel) (pa_cons (pv 1) (pa_cons (pe_bltn (v := .ty "bool") (by rfl) T.bool (by decide +kernel) rfl) pa_nil))) (nomark _))
          (pe_one (pe_cmpR (op_eqD hr.units) (pv 0) (pv 1) (nomark _)))))))), ?_⟩
      refine ⟨_, rfl, (by show 2 ≤ sizeLine; decide), fun p1 np1 => ⟨y, p1, _, .type (tyName d), _, isSeq d, rfl, upd_same, .cons (.ty _) (.cons (.ty _) .nil), tyx_d (Dp.mono (same_new np1) _ _ hy), kit_seq d, isSeq d, rfl, ?_⟩⟩
      have e1 := same_new (o := .tup [V.ty "tuple", V.ty "list"]) np1
      have nd : ∀ b : Bool, (!decide (V.bl b = V.bl b)) = false := fun b => by simp
      have ni : ∀ i : Int, (!decide (V.int i = V.int i)) = false := fun b => by simp
      have yd : ∀ b : Bool, decide (V.bl b = V.bl b) = true := fun b => by simp
      refine ite2 (fun hq => ?_) (fun hq => ?_)
      · obtain ⟨a, b, xs, ys, ds, rfl, rfl, ax, ay, sx, sy, hlen, hds⟩ : ∃ (a b : Addr) (xs ys : List V) (ds : List PyData), x = .ref a ∧ y = .ref b ∧ DpAll K H xs ds ∧ DpAll K H ys ds ∧ (SqL K H a xs ∨ SqT K H a xs) ∧ (SqL K H b ys ∨ SqT K H b ys) ∧ ds.length ≤ 1000000 ∧ (∀ e ∈ ds, okd n e) := by
          cases hx with
          | lst sx ax =>
            cases hy with
            | lst sy ay => exact ⟨_, _, _, _, _, rfl, rfl, ax, ay, .inl sx, .inl sy, hd.1, hd.2⟩
          | tup sx ax =>
            cases hy with
            | tup sy ay => exact ⟨_, _, _, _, _, rfl, rfl, ax, ay, .inr sx, .inr sy, hd.1, hd.2⟩
          | non => cases hq
          | bl b => cases hq
          | int i => cases hq
          | str z => cases hq
        have seq_mono : ∀ {H1 H2 : Hp} {c : Addr} {zs : List V}, Same H1 H2 → (SqL K H1 c zs ∨ SqT K H1 c zs) → (SqL K H2 c zs ∨ SqT K H2 c zs) := fun e h => h.elim (fun h => .inl (e.seq h)) fun h => .inr (e.sqt h)
        -- not isinstance(found, (tuple, list)) or ..
        refine ⟨_, rfl, (by show 2 ≤ sizeLine; decide), fun p2 np2 => ⟨_, p2, _, .type (tyName d), _, isSeq d, rfl, upd_same, .cons (.ty _) (.cons (.ty _) .nil), tyx_d (Dp.mono (same_new np2) _ _ (Dp.mono e1 _ _ hx)), kit_seq d, isSeq d, rfl, ?_⟩⟩
        have e2 : Same H _ := e1.trans (same_new (o := .tup [V.ty "tuple", V.ty "list"]) np2)
        refine if_f (by rw [hq]; rfl) ?_
        refine ⟨_, rfl, _, _, .type (tyName d), _, isLst d, rfl, .ty _, tyx_d (Dp.mono e2 _ _ hx), kit_lst d, ?_⟩
        refine ⟨_, rfl, _, _, .type (tyName d), _, isLst d, rfl, .ty _, tyx_d (Dp.mono e2 _ _ hy), kit_lst d, rfl, _, rfl, ?_⟩
        refine if_f (nd _) ?_
        refine ⟨_, rfl, a, xs, rfl, seq_mono e2 sx, _, rfl, b, ys, rfl, seq_mono e2 sy, rfl, _, rfl, ?_⟩
        refine if_f (by rw [DpAll.length ax, DpAll.length ay]; exact ni _) ?_
        -- [k for k in range(len(due)) if not ..] == []
        refine ⟨_, rfl, b, ys, rfl, seq_mono e2 sy, _, rfl, ?_, ?_, fun D nD => ?_⟩
        · have := DpAll.length ay
          omega
        · have := DpAll.length ay
          omega
        have eD : Same H (upd _ D (.lst [])) := e2.trans (same_new nD)
        rw [show ((ys.length : Nat) : Int).toNat = ds.length by rw [Int.toNat_natCast, DpAll.length ay]]
        refine lc_range (lo := 0) (n := ds.length) (fun i H' => Same H H' ∧ H' D = some (.lst [])) ⟨eD, upd_same⟩ (fun i H' hi ⟨e3, hD⟩ => ⟨rfl, ?_⟩) (fun H' ⟨e3, hD⟩ => ?_)
        · have hdi : ds[i]? = some ds[i] := List.getElem?_eq_getElem hi
          obtain ⟨u, hu, du⟩ := DpAll.get ax hdi
          obtain ⟨v, hv, dv⟩ := DpAll.get ay hdi
          have ixs : ∀ {c : Addr} {zs : List V} {t : V} {Q : VK}, (SqL K H c zs ∨ SqT K H c zs) → zs[i]? = some t → Q t H' → rIx K (.ref c) (.int (0 + (i : Int))) H' Q := fun {c zs t Q} h hz q => by
            have ha : atI zs (0 + (i : Int)) = some t := by
              rw [Int.zero_add]
              exact atI_nat hz
            rcases h with h | h
            · exact .inl ⟨c, zs, _, t, rfl, rfl, e3.seq h, ha, q⟩
            · exact .inr (.inl ⟨c, zs, _, t, rfl, rfl, e3.sqt h, ha, q⟩)
          refine ⟨_, rfl, _, rfl, ixs sx hu ⟨_, rfl, _, rfl, ixs sy hv ?_⟩⟩
          refine ⟨u, v, ds[i], rfl, Dp.mono e3 _ _ du, Dp.mono e3 _ _ dv, hds _ (List.getElem_mem hi), by omega, fun H4 e4 => ⟨true, rfl, ?_⟩⟩
          exact if_f rfl ⟨e3.trans e4, e4 _ _ hD⟩
        · refine ⟨Nat.zero_le _, fun p3 np3 => ?_⟩
          have e4 := same_new (o := .lst []) np3
          refine ⟨.list [], .list [], .lst (SqL.of (e4 _ _ hD)) .nil, .lst (SqL.of upd_same) .nil, by decide +kernel, by decide +kernel, ?_⟩
          exact k _ (e3.trans e4)
      · have sh : SeqAt.shaped d = true := okd_shaped hd (by omega)
        have self : PyData.eqv d d = true := SeqAt.eqv_refl d (okd_lay hd)
        have fin : ∀ b c : Bool, b = true → c = true → Q (.bl b) (upd H p1 (.tup [V.ty "tuple", V.ty "list"])) := fun b _ hb _ => by
          rw [hb]
          exact k _ e1
        have eqs : ∀ {Q' : VK}, Q' (.bl true) (upd H p1 (.tup [V.ty "tuple", V.ty "list"])) → rEqD K x y (upd H p1 (.tup [V.ty "tuple", V.ty "list"])) Q' := fun {Q'} q => ⟨d, d, Dp.mono e1 _ _ hx, Dp.mono e1 _ _ hy, sh, sh, by rw [self]; exact q⟩
        have low : ((isStr d = true ∨ y = .non) ∧ isInt d = false) ∨ ((isStr d = false ∧ y ≠ .non) ∧ isInt d = true) := by
          cases hy with
          | non => exact .inl ⟨.inr rfl, rfl⟩
          | str z => exact .inl ⟨.inl rfl, rfl⟩
          | int i => exact .inr ⟨⟨rfl, fun z => nomatch z⟩, rfl⟩
          | bl b => exact .inr ⟨⟨rfl, fun z => nomatch z⟩, rfl⟩
          | lst _ _ => exact absurd rfl hq
          | tup _ _ => exact absurd rfl hq
        -- due is None or isinstance(due, str)
        have tys : ∀ {v : V}, Dp K H v d → TyX K (upd H p1 (.tup [V.ty "tuple", V.ty "list"])) v (.type (tyName d)) := fun h => tyx_d (Dp.mono e1 _ _ h)
        refine ⟨_, rfl, rfl, _, rfl, ?_⟩
        rcases low with ⟨h1, h2⟩ | ⟨⟨h1, h1'⟩, h2⟩
        · have one : (tRet (tAndV (tOp (rEqD K) (tVar 0) (tVar 1)) (tOp rEq (tCB (rIsi K) (tCons (tVar 0) (tCons (tC (.ty "str")) tNil))) (tCB (rIsi K) (tCons (tVar 1) (tCons (tC (.ty "str")) tNil)))))) { nx := fun _ H' => Q .non H', rt := Q } [some x, some y, none] (upd H p1 (.tup [V.ty "tuple", V.ty "list"])) := by
            refine ⟨_, rfl, _, rfl, eqs ⟨true, rfl, if_t rfl ?_⟩⟩
            refine ⟨_, rfl, _, _, .type (tyName d), _, isStr d, rfl, .ty _, tys hx, kit_str d, ?_⟩
            refine ⟨_, rfl, _, _, .type (tyName d), _, isStr d, rfl, .ty _, tys hy, kit_str d, rfl, ?_⟩
            exact fin _ true (yd _) rfl
          by_cases hn : y = .non
          · exact if_t (decide_eq_true hn) (if_t rfl one)
          · refine if_f (decide_eq_false hn) ⟨_, rfl, _, _, .type (tyName d), _, isStr d, rfl, .ty _, tys hy, kit_str d, _, rfl, ?_⟩
            exact if_t (h1.elim id fun z => absurd z hn) one
        · refine if_f (decide_eq_false h1') ⟨_, rfl, _, _, .type (tyName d), _, isStr d, rfl, .ty _, tys hy, kit_str d, _, rfl, if_f h1 ?_⟩
          refine ⟨_, rfl, _, _, .type (tyName d), _, isInt d, rfl, .ty _, tys hx, kit_int d, _, rfl, if_t h2 ?_⟩
          refine ⟨_, rfl, _, _, .type (tyName d), _, isBool d, rfl, .ty _, tys hx, kit_bool d, ?_⟩
          refine ⟨_, rfl, _, _, .type (tyName d), _, isBool d, rfl, .ty _, tys hy, kit_bool d, rfl, _, rfl, if_t (yd _) ?_⟩
          exact ⟨_, rfl, _, rfl, eqs (fin _ true rfl rfl)⟩
end
end LW
set_option Elab.async false
set_option linter.all false
set_option maxRecDepth 100000
set_option maxHeartbeats 8000000
/-! k09: _law_raised. Printed by gen_raised.py. -/
namespace LW
open PySem L2
structure TxtR (prog : Program) (K : PySem.W.Frag) (mg : Str → Option Value) (C F : Nat → Addr) (L : Addr) : Prop where
  e0 : PySem.LadX.ErrTxt prog K mg "BadNumber" "value" (C 0) (F 0)
  e1 : PySem.LadX.ErrTxt prog K mg "BadName" "value" (C 1) (F 1)
  e2 : PySem.LadX.ErrTxt prog K mg "BadItem" "index" (C 2) (F 2)
  e3 : PySem.LadX.ErrTxt prog K mg "BadEvent" "value" (C 3) (F 3)
  e4 : PySem.LadX.ErrTxt prog K mg "BadNote" "line" (C 4) (F 4)
  e5 : PySem.LadX.ErrTxt prog K mg "TooMany" "limit" (C 5) (F 5)
  e6 : PySem.LadX.ErrTxt prog K mg "Unknown" "value" (C 6) (F 6)
  e7 : PySem.LadX.ErrTxt prog K mg "Taken" "value" (C 7) (F 7)
  e8 : PySem.LadX.RefTxt prog K mg "Refused" (C 8) (F 8)
  e9 : NoneTxt K mg "NothingToUndo" (C 9)
  exc : ∀ j, j < 10 → ExcC K (C j)
  lad : mg "LadderError" = some (.ref L)
  te : ∀ j, j < 10 → PySem.W.exmOne K (.ref (C j)) (.ref L) = some true
  kit : ∀ i j, i < 10 → j < 10 → PySem.W.kitOne K (.ref (C i)) (.ref (C j)) = some (decide ((j : Int) = (i : Int)))
  kv : ∀ j, j < 10 → PySem.W.kitOne K (.ref (C j)) (.type "ValueError") = some true
  kl : ∀ j, j < 10 → PySem.W.kitOne K (.ref (C j)) (.type "LookupError") = some false
  kr : ∀ j, j < 10 → PySem.W.kitOne K (.ref (C j)) (.type "RuntimeError") = some false
  isi : mg "isinstance" = none
  ve : mg "ValueError" = none
  le : mg "LookupError" = none
  re : mg "RuntimeError" = none
def FieldOk (n : Int) (v w u : V) (H : Hp) : Prop := if n = 8 then ∃ t, u = .ref t ∧ H t = some (.tup [v, w]) else if n = 9 then u = .non else u = v
def kindsOf (n : Int) : List V := [.bl (decide ((0 : Int) = n)), .bl (decide ((1 : Int) = n)), .bl (decide ((2 : Int) = n)), .bl (decide ((3 : Int) = n)), .bl (decide ((4 : Int) = n)), .bl (decide ((5 : Int) = n)), .bl (decide ((6 : Int) = n)), .bl (decide ((7 : Int) = n)), .bl (decide ((8 : Int) = n)), .bl (decide ((9 : Int) = n))]
def spRaised : Sp := fun vs H Q _ => ∃ (n : Int) (v w : V), vs = [.int n, v, w] ∧ 0 ≤ n ∧ n < 10 ∧ ∀ (H' : Hp) (p q : Addr) (u : V), Same H H' → H' p = some (.tup [.ref q, u]) → H' q = some (.lst (kindsOf n)) → FieldOk n v w u H' → Q (.ref p) H'
section
variable {P : Program} {w : World} {K : PySem.W.Frag} {mg : Str → Option Value} {base : Heap}
theorem scR : FnScope ["number", "value", "named", "e", "kinds", "field"] ["number", "value", "named"] (defScope sRaised) := ⟨rfl, rfl, rfl, by decide +kernel, rfl, by decide +kernel, by decide +kernel⟩
theorem ok_raised {f L : Addr} {C FI : Nat → Addr} {fd : FuncData} (F : Fun K "_law_raised" "_law_raised" sRaised f fd) (T : TxtR P K mg C FI L) : FnOk P w K mg base CX0 3 f fd ["number", "value", "named"] spRaised := by
  refine F.ok scR (fun vs H Q E h => ?_) (fun cdv A outer s H vs Q E hr h => ?_)
  · obtain ⟨n, v, w, rfl, _⟩ := h
    rfl
  · obtain ⟨n, v, w, rfl, n0, n1, k⟩ := h
    refine ⟨_, pss_one (ps_try_as (i := 3) (Wout := fun _ _ _ _ => False) rfl rfl scR.nd rfl rfl ⟨rfl, by decide, .inl T.lad⟩ takes0
        (fun W pn xe tk _ => (pss_cons (ps_if (pt_cmpR op_eq (pv 0) pe_int (nomark _)) (pss_one (ps_raiseErr rfl T.e0 hr tk (by exact (pa_cons (pv 1) pa_nil)))) pss_nil)
            (pss_cons (ps_if (pt_cmpR op_eq (pv 0) pe_int (nomark _)) (pss_one (ps_raiseErr rfl T.e1 hr tk (by exact (pa_cons (pv 1) pa_nil)))) pss_nil)
            (pss_cons (ps_if (pt_cmpR op_eq (pv 0) pe_int (nomark _)) (pss_one (ps_raiseErr rfl T.e2 hr tk (by exact (pa_cons (pv 1) pa_nil)))) pss_nil)
            (pss_cons (ps_if (pt_cmpR op_eq (pv 0) pe_int (nomark _)) (pss_one (ps_raiseErr rfl T.e3 hr tk (by exact (pa_cons (pv 1) pa_nil)))) pss_nil)
            (pss_cons (ps_if (pt_cmpR op_eq (pv 0) pe_int (nomark _)) (pss_one (ps_raiseErr rfl T.e4 hr tk (by exact (pa_cons (pv 1) pa_nil)))) pss_nil)
            (pss_cons (ps_if (pt_cmpR op_eq (pv 0) pe_int (nomark _)) (pss_one (ps_raiseErr rfl T.e5 hr tk (by exact (pa_cons (pv 1) pa_nil)))) pss_nil)
            (pss_cons (ps_if (pt_cmpR op_eq (pv 0) pe_int (nomark _)) (pss_one (ps_raiseErr rfl T.e6 hr tk (by exact (pa_cons (pv 1) pa_nil)))) pss_nil)
            (pss_cons (ps_if (pt_cmpR op_eq (pv 0) pe_int (nomark _)) (pss_one (ps_raiseErr rfl T.e7 hr tk (by exact (pa_cons (pv 1) pa_nil)))) pss_nil)
            (pss_cons (ps_if (pt_cmpR op_eq (pv 0) pe_int (nomark _)) (pss_one (ps_raiseRef rfl T.e8 hr tk (by exact (pa_cons (pv 1) (pa_cons (pv 2) pa_nil))))) pss_nil)
            (pss_one (ps_raiseNone rfl T.e9 tk))))))))))))
        (fun a oe cls d pn hz hf => (pss_cons (ps_set (i := 4) scR.nd rfl (.inl rfl) (pe_lst (pa_cons (pe_callB (call_isErr hz hf) (by rfl) T.isi (by decide +kernel) (pa_cons (pv 3) (pa_cons (pe_glob (v := .ref (C 0)) (by rfl) T.e0.gC rfl) pa_nil))) (pa_cons (pe_callB (call_isErr hz hf) (by rfl) T.isi (by decide +kernel) (pa_cons (pv 3) (pa_cons (pe_glob (v := .ref (C 1)) (by rfl) T.e1.gC rfl) pa_nil))) (pa_cons (pe_callB (call_isErr hz hf) (by rfl) T.isi (by decide +kernel) (pa_cons (pv 3) (pa_cons (pe_glob (v := .ref (C 2)) (by rfl) T.e2.gC rfl) pa_nil))) (pa_cons (pe_callB (call_isErr hz hf) (by rfl) T.isi (by decide +kernel) (pa_cons (pv 3) (pa_cons (pe_glob (v := .ref (C 3)) (by rfl) T.e3.gC rfl) pa_nil))) (pa_cons (pe_callB (call_isErr hz hf) (by rfl) T.isi (by decide +kernel) (pa_cons (pv 3) (pa_cons (pe_glob (v := .ref (C 4)) (by rfl) T.e4.gC rfl) pa_nil))) pa_nil)))))))
            (pss_cons (ps_set (i := 4) scR.nd rfl (.inl rfl) (pe_op op_cat (pv 4) (pe_lst (pa_cons (pe_callB (call_isErr hz hf) (by rfl) T.isi (by decide +kernel) (pa_cons (pv 3) (pa_cons (pe_glob (v := .ref (C 5)) (by rfl) T.e5.gC rfl) pa_nil))) (pa_cons (pe_callB (call_isErr hz hf) (by rfl) T.isi (by decide +kernel) (pa_cons (pv 3) (pa_cons (pe_glob (v := .ref (C 6)) (by rfl) T.e6.gC rfl) pa_nil))) (pa_cons (pe_callB (call_isErr hz hf) (by rfl) T.isi (by decide +kernel) (pa_cons (pv 3) (pa_cons (pe_glob (v := .ref (C 7)) (by rfl) T.e7.gC rfl) pa_nil))) (pa_cons (pe_callB (call_isErr hz hf) (by rfl) T.isi (by decide +kernel) (pa_cons (pv 3) (pa_cons (pe_glob (v := .ref (C 8)) (by rfl) T.e8.gC rfl) pa_nil))) (pa_cons (pe_callB (call_isErr hz hf) (by rfl) T.isi (by decide +kernel) (pa_cons (pv 3) (pa_cons (pe_glob (v := .ref (C 9)) (by rfl) T.e9.gC rfl) pa_nil))) pa_nil))))))))
            (pss_cons (ps_if (PW.pt (pw_or (pt_not (pt_val (pe_callB (call_isErr hz hf) (by rfl) T.isi (by decide +kernel) (pa_cons (pv 3) (pa_cons (pe_bltn (v := .ty "ValueError") (by rfl) T.ve (by decide +kernel) rfl) pa_nil))))) (pw_or (pt_val (pe_callB (call_isErr hz hf) (by rfl) T.isi (by decide +kernel) (pa_cons (pv 3) (pa_cons (pe_bltn (v := .ty "LookupError") (by rfl) T.le (by decide +kernel) rfl) pa_nil)))) (pw_or1 (pt_val (pe_callB (call_isErr hz hf) (by rfl) T.isi (by decide +kernel) (pa_cons (pv 3) (pa_cons (pe_bltn (v := .ty "RuntimeError") (by rfl) T.re (by decide +kernel) rfl) pa_nil)))))))) (pss_one (ps_ret pe_non)) pss_nil)
            (pss_cons (ps_set (i := 5) scR.nd rfl (.inl rfl) pe_non)
            (pss_cons (ps_if (pt_cmpR (r := rIn K false) op_in_seq (pv 0) (pe_lst (pa_cons pe_int (pa_cons pe_int (pa_cons pe_int (pa_cons pe_int (pa_cons pe_int pa_nil)))))) rfl) (pss_one (ps_set (i := 5) scR.nd rfl (.inl rfl) (pe_byErr hz hf (pv 3)))) pss_nil)
            (pss_cons (ps_if (pt_cmpR op_eq (pv 0) pe_int (nomark _)) (pss_one (ps_set (i := 5) scR.nd rfl (.inl rfl) (pe_byErr hz hf (pv 3)))) pss_nil)
            (pss_cons (ps_if (pt_cmpR op_eq (pv 0) pe_int (nomark _)) (pss_one (ps_set (i := 5) scR.nd rfl (.inl rfl) (pe_byErr hz hf (pv 3)))) pss_nil)
            (pss_cons (ps_if (pt_cmpR op_eq (pv 0) pe_int (nomark _)) (pss_one (ps_set (i := 5) scR.nd rfl (.inl rfl) (pe_byErr hz hf (pv 3)))) pss_nil)
            (pss_cons (ps_if (pt_cmpR op_eq (pv 0) pe_int (nomark _)) (pss_one (ps_set (i := 5) scR.nd rfl (.inl rfl) (pe_tup (pa_cons (pe_byErr hz hf (pv 3)) (pa_cons (pe_byErr hz hf (pv 3)) pa_nil))))) pss_nil)
            (pss_one (ps_ret (pe_tup (pa_cons (pv 4) (pa_cons (pv 5) pa_nil)))))))))))))))), ?_⟩
    have cases : n = 0 ∨ n = 1 ∨ n = 2 ∨ n = 3 ∨ n = 4 ∨ n = 5 ∨ n = 6 ∨ n = 7 ∨ n = 8 ∨ n = 9 := by omega
    rcases cases with rfl | rfl | rfl | rfl | rfl | rfl | rfl | rfl | rfl | rfl
    · refine ⟨_, rfl, rfl, _, rfl, if_t (by decide) ?_⟩
      refine ⟨_, rfl, v, rfl, fun d nd => ⟨true, T.te 0 (by decide), fun _ a na => ?_, fun q => nomatch q⟩⟩
      have e1 : Same H (upd H d (.xd [(("value" : Str), v)])) := same_new nd
      have hd : ∀ H2, Same (upd H d (.xd [(("value" : Str), v)])) H2 → H2 d = some (.xd [(("value" : Str), v)]) := fun H2 e => e _ _ upd_same
      have hx : ∀ H2, Same (upd H d (.xd [(("value" : Str), v)])) H2 → ∀ dd, some d = some dd → ∃ fs, H2 dd = some (.xd fs) := fun H2 e dd q => by cases q; exact ⟨_, hd H2 e⟩
      have f0 := Same.refl (upd H d (.xd [(("value" : Str), v)]))
      refine ⟨_, rfl, C 0, _, _, true, rfl, T.exc 0 (by decide), rfl, fun u hu => hu, T.kit 0 0 (by decide) (by decide), hx _ f0, ?_⟩
      refine ⟨_, rfl, C 0, _, _, false, rfl, T.exc 0 (by decide), rfl, fun u hu => hu, T.kit 0 1 (by decide) (by decide), hx _ f0, ?_⟩
      refine ⟨_, rfl, C 0, _, _, false, rfl, T.exc 0 (by decide), rfl, fun u hu => hu, T.kit 0 2 (by decide) (by decide), hx _ f0, ?_⟩
      refine ⟨_, rfl, C 0, _, _, false, rfl, T.exc 0 (by decide), rfl, fun u hu => hu, T.kit 0 3 (by decide) (by decide), hx _ f0, ?_⟩
      refine ⟨_, rfl, C 0, _, _, false, rfl, T.exc 0 (by decide), rfl, fun u hu => hu, T.kit 0 4 (by decide) (by decide), hx _ f0, ?_⟩
      refine ⟨(by show 5 ≤ sizeLine; decide), fun q1 m1 => ?_⟩
      have f1 := f0.trans (same_new (o := .lst [V.bl true, V.bl false, V.bl false, V.bl false, V.bl false]) m1)
      refine ⟨_, rfl, ?_⟩
      refine ⟨_, rfl, C 0, _, _, false, rfl, T.exc 0 (by decide), rfl, fun u hu => hu, T.kit 0 5 (by decide) (by decide), hx _ f1, ?_⟩
      refine ⟨_, rfl, C 0, _, _, false, rfl, T.exc 0 (by decide), rfl, fun u hu => hu, T.kit 0 6 (by decide) (by decide), hx _ f1, ?_⟩
      refine ⟨_, rfl, C 0, _, _, false, rfl, T.exc 0 (by decide), rfl, fun u hu => hu, T.kit 0 7 (by decide) (by decide), hx _ f1, ?_⟩
      refine ⟨_, rfl, C 0, _, _, false, rfl, T.exc 0 (by decide), rfl, fun u hu => hu, T.kit 0 8 (by decide) (by decide), hx _ f1, ?_⟩
      refine ⟨_, rfl, C 0, _, _, false, rfl, T.exc 0 (by decide), rfl, fun u hu => hu, T.kit 0 9 (by decide) (by decide), hx _ f1, ?_⟩
      refine ⟨(by show 5 ≤ sizeLine; decide), fun q2 m2 => ?_⟩
      have f2 := f1.trans (same_new (o := .lst [V.bl false, V.bl false, V.bl false, V.bl false, V.bl false]) m2)
      refine ⟨q1, q2, _, _, rfl, rfl, same_new m2 _ _ upd_same, upd_same, (by show 10 ≤ sizeLine; decide), fun q3 m3 => ?_⟩
      have f3 := f2.trans (same_new (o := .lst ([V.bl true, V.bl false, V.bl false, V.bl false, V.bl false] ++ [V.bl false, V.bl false, V.bl false, V.bl false, V.bl false])) m3)
      refine ⟨_, rfl, C 0, .ty "ValueError", _, true, rfl, T.exc 0 (by decide), rfl, fun u hu => hu, T.kv 0 (by decide), hx _ f3, _, rfl, if_f rfl ?_⟩
      refine ⟨_, rfl, C 0, .ty "LookupError", _, false, rfl, T.exc 0 (by decide), rfl, fun u hu => hu, T.kl 0 (by decide), hx _ f3, _, rfl, if_f rfl ?_⟩
      refine ⟨_, rfl, C 0, .ty "RuntimeError", _, false, rfl, T.exc 0 (by decide), rfl, fun u hu => hu, T.kr 0 (by decide), hx _ f3, _, rfl, if_f rfl ?_⟩
      refine ⟨_, rfl, (by show 5 ≤ sizeLine; decide), fun q4 m4 => ⟨q4, _, rfl, .inl (SqL.of upd_same), rfl, rfl, _, rfl, ?_⟩⟩
      have f4 := f3.trans (same_new (o := .lst [V.int 0, V.int 1, V.int 3, V.int 6, V.int 7]) m4)
      have kq : ∀ H2, Same _ H2 → H2 q3 = some (.lst ([V.bl true, V.bl false, V.bl false, V.bl false, V.bl false] ++ [V.bl false, V.bl false, V.bl false, V.bl false, V.bl false])) := fun H2 e => e _ _ (same_new (o := .lst [V.int 0, V.int 1, V.int 3, V.int 6, V.int 7]) m4 _ _ upd_same)
      refine if_t (by decide) ⟨_, rfl, rfl, C 0, rfl, T.e0.look, T.e0.noN, d, _, v, rfl, hd _ f4, (by with_unfolding_all rfl), ?_⟩
      refine ⟨_, rfl, rfl, _, rfl, if_f (by decide) ?_⟩
      refine ⟨_, rfl, rfl, _, rfl, if_f (by decide) ?_⟩
      refine ⟨_, rfl, rfl, _, rfl, if_f (by decide) ?_⟩
      refine ⟨_, rfl, rfl, _, rfl, if_f (by decide) ?_⟩
      refine ⟨_, rfl, _, rfl, (by show 2 ≤ sizeLine; decide), fun p5 m5 => ?_⟩
      have f6 := same_new (o := .tup [.ref q3, v]) m5
      exact k _ p5 q3 v (e1.trans (f4.trans f6)) upd_same (kq _ f6) (by unfold FieldOk; rw [if_neg (by decide)]; rw [if_neg (by decide)])
    · refine ⟨_, rfl, rfl, _, rfl, if_f (by decide) ?_⟩
      refine ⟨_, rfl, rfl, _, rfl, if_t (by decide) ?_⟩
      refine ⟨_, rfl, v, rfl, fun d nd => ⟨true, T.te 1 (by decide), fun _ a na => ?_, fun q => nomatch q⟩⟩
      have e1 : Same H (upd H d (.xd [(("value" : Str), v)])) := same_new nd
      have hd : ∀ H2, Same (upd H d (.xd [(("value" : Str), v)])) H2 → H2 d = some (.xd [(("value" : Str), v)]) := fun H2 e => e _ _ upd_same
      have hx : ∀ H2, Same (upd H d (.xd [(("value" : Str), v)])) H2 → ∀ dd, some d = some dd → ∃ fs, H2 dd = some (.xd fs) := fun H2 e dd q => by cases q; exact ⟨_, hd H2 e⟩
      have f0 := Same.refl (upd H d (.xd [(("value" : Str), v)]))
      refine ⟨_, rfl, C 1, _, _, false, rfl, T.exc 1 (by decide), rfl, fun u hu => hu, T.kit 1 0 (by decide) (by decide), hx _ f0, ?_⟩
      refine ⟨_, rfl, C 1, _, _, true, rfl, T.exc 1 (by decide), rfl, fun u hu => hu, T.kit 1 1 (by decide) (by decide), hx _ f0, ?_⟩
      refine ⟨_, rfl, C 1, _, _, false, rfl, T.exc 1 (by decide), rfl, fun u hu => hu, T.kit 1 2 (by decide) (by decide), hx _ f0, ?_⟩
      refine ⟨_, rfl, C 1, _, _, false, rfl, T.exc 1 (by decide), rfl, fun u hu => hu, T.kit 1 3 (by decide) (by decide), hx _ f0, ?_⟩
      refine ⟨_, rfl, C 1, _, _, false, rfl, T.exc 1 (by decide), rfl, fun u hu => hu, T.kit 1 4 (by decide) (by decide), hx _ f0, ?_⟩
      refine ⟨(by show 5 ≤ sizeLine; decide), fun q1 m1 => ?_⟩
      have f1 := f0.trans (same_new (o := .lst [V.bl false, V.bl true, V.bl false, V.bl false, V.bl false]) m1)
      refine ⟨_, rfl, ?_⟩
      refine ⟨_, rfl, C 1, _, _, false, rfl, T.exc 1 (by decide), rfl, fun u hu => hu, T.kit 1 5 (by decide) (by decide), hx _ f1, ?_⟩
      refine ⟨_, rfl, C 1, _, _, false, rfl, T.exc 1 (by decide), rfl, fun u hu => hu, T.kit 1 6 (by decide) (by decide), hx _ f1, ?_⟩
      refine ⟨_, rfl, C 1, _, _, false, rfl, T.exc 1 (by decide), rfl, fun u hu => hu, T.kit 1 7 (by decide) (by decide), hx _ f1, ?_⟩
      refine ⟨_, rfl, C 1, _, _, false, rfl, T.exc 1 (by decide), rfl, fun u hu => hu, T.kit 1 8 (by decide) (by decide), hx _ f1, ?_⟩
      refine ⟨_, rfl, C 1, _, _, false, rfl, T.exc 1 (by decide), rfl, fun u hu => hu, T.kit 1 9 (by decide) (by decide), hx _ f1, ?_⟩
      refine ⟨(by show 5 ≤ sizeLine; decide), fun q2 m2 => ?_⟩
      have f2 := f1.trans (same_new (o := .lst [V.bl false, V.bl false, V.bl false, V.bl false, V.bl false]) m2)
      refine ⟨q1, q2, _, _, rfl, rfl, same_new m2 _ _ upd_same, upd_same, (by show 10 ≤ sizeLine; decide), fun q3 m3 => ?_⟩
      have f3 := f2.trans (same_new (o := .lst ([V.bl false, V.bl true, V.bl false, V.bl false, V.bl false] ++ [V.bl false, V.bl false, V.bl false, V.bl false, V.bl false])) m3)
      refine ⟨_, rfl, C 1, .ty "ValueError", _, true, rfl, T.exc 1 (by decide), rfl, fun u hu => hu, T.kv 1 (by decide), hx _ f3, _, rfl, if_f rfl ?_⟩
      refine ⟨_, rfl, C 1, .ty "LookupError", _, false, rfl, T.exc 1 (by decide), rfl, fun u hu => hu, T.kl 1 (by decide), hx _ f3, _, rfl, if_f rfl ?_⟩
      refine ⟨_, rfl, C 1, .ty "RuntimeError", _, false, rfl, T.exc 1 (by decide), rfl, fun u hu => hu, T.kr 1 (by decide), hx _ f3, _, rfl, if_f rfl ?_⟩
      refine ⟨_, rfl, (by show 5 ≤ sizeLine; decide), fun q4 m4 => ⟨q4, _, rfl, .inl (SqL.of upd_same), rfl, rfl, _, rfl, ?_⟩⟩
      have f4 := f3.trans (same_new (o := .lst [V.int 0, V.int 1, V.int 3, V.int 6, V.int 7]) m4)
      have kq : ∀ H2, Same _ H2 → H2 q3 = some (.lst ([V.bl false, V.bl true, V.bl false, V.bl false, V.bl false] ++ [V.bl false, V.bl false, V.bl false, V.bl false, V.bl false])) := fun H2 e => e _ _ (same_new (o := .lst [V.int 0, V.int 1, V.int 3, V.int 6, V.int 7]) m4 _ _ upd_same)
      refine if_t (by decide) ⟨_, rfl, rfl, C 1, rfl, T.e1.look, T.e1.noN, d, _, v, rfl, hd _ f4, (by with_unfolding_all rfl), ?_⟩
      refine ⟨_, rfl, rfl, _, rfl, if_f (by decide) ?_⟩
      refine ⟨_, rfl, rfl, _, rfl, if_f (by decide) ?_⟩
      refine ⟨_, rfl, rfl, _, rfl, if_f (by decide) ?_⟩
      refine ⟨_, rfl, rfl, _, rfl, if_f (by decide) ?_⟩
      refine ⟨_, rfl, _, rfl, (by show 2 ≤ sizeLine; decide), fun p5 m5 => ?_⟩
      have f6 := same_new (o := .tup [.ref q3, v]) m5
      exact k _ p5 q3 v (e1.trans (f4.trans f6)) upd_same (kq _ f6) (by unfold FieldOk; rw [if_neg (by decide)]; rw [if_neg (by decide)])
    · refine ⟨_, rfl, rfl, _, rfl, if_f (by decide) ?_⟩
      refine ⟨_, rfl, rfl, _, rfl, if_f (by decide) ?_⟩
      refine ⟨_, rfl, rfl, _, rfl, if_t (by decide) ?_⟩
      refine ⟨_, rfl, v, rfl, fun d nd => ⟨true, T.te 2 (by decide), fun _ a na => ?_, fun q => nomatch q⟩⟩
      have e1 : Same H (upd H d (.xd [(("index" : Str), v)])) := same_new nd
      have hd : ∀ H2, Same (upd H d (.xd [(("index" : Str), v)])) H2 → H2 d = some (.xd [(("index" : Str), v)]) := fun H2 e => e _ _ upd_same
      have hx : ∀ H2, Same (upd H d (.xd [(("index" : Str), v)])) H2 → ∀ dd, some d = some dd → ∃ fs, H2 dd = some (.xd fs) := fun H2 e dd q => by cases q; exact ⟨_, hd H2 e⟩
      have f0 := Same.refl (upd H d (.xd [(("index" : Str), v)]))
      refine ⟨_, rfl, C 2, _, _, false, rfl, T.exc 2 (by decide), rfl, fun u hu => hu, T.kit 2 0 (by decide) (by decide), hx _ f0, ?_⟩
      refine ⟨_, rfl, C 2, _, _, false, rfl, T.exc 2 (by decide), rfl, fun u hu => hu, T.kit 2 1 (by decide) (by decide), hx _ f0, ?_⟩
      refine ⟨_, rfl, C 2, _, _, true, rfl, T.exc 2 (by decide), rfl, fun u hu => hu, T.kit 2 2 (by decide) (by decide), hx _ f0, ?_⟩
      refine ⟨_, rfl, C 2, _, _, false, rfl, T.exc 2 (by decide), rfl, fun u hu => hu, T.kit 2 3 (by decide) (by decide), hx _ f0, ?_⟩
      refine ⟨_, rfl, C 2, _, _, false, rfl, T.exc 2 (by decide), rfl, fun u hu => hu, T.kit 2 4 (by decide) (by decide), hx _ f0, ?_⟩
      refine ⟨(by show 5 ≤ sizeLine; decide), fun q1 m1 => ?_⟩
      have f1 := f0.trans (same_new (o := .lst [V.bl false, V.bl false, V.bl true, V.bl false, V.bl false]) m1)
      refine ⟨_, rfl, ?_⟩
      refine ⟨_, rfl, C 2, _, _, false, rfl, T.exc 2 (by decide), rfl, fun u hu => hu, T.kit 2 5 (by decide) (by decide), hx _ f1, ?_⟩
      refine ⟨_, rfl, C 2, _, _, false, rfl, T.exc 2 (by decide), rfl, fun u hu => hu, T.kit 2 6 (by decide) (by decide), hx _ f1, ?_⟩
      refine ⟨_, rfl, C 2, _, _, false, rfl, T.exc 2 (by decide), rfl, fun u hu => hu, T.kit 2 7 (by decide) (by decide), hx _ f1, ?_⟩
      refine ⟨_, rfl, C 2, _, _, false, rfl, T.exc 2 (by decide), rfl, fun u hu => hu, T.kit 2 8 (by decide) (by decide), hx _ f1, ?_⟩
      refine ⟨_, rfl, C 2, _, _, false, rfl, T.exc 2 (by decide), rfl, fun u hu => hu, T.kit 2 9 (by decide) (by decide), hx _ f1, ?_⟩
      refine ⟨(by show 5 ≤ sizeLine; decide), fun q2 m2 => ?_⟩
      have f2 := f1.trans (same_new (o := .lst [V.bl false, V.bl false, V.bl false, V.bl false, V.bl false]) m2)
      refine ⟨q1, q2, _, _, rfl, rfl, same_new m2 _ _ upd_same, upd_same, (by show 10 ≤ sizeLine; decide), fun q3 m3 => ?_⟩
      have f3 := f2.trans (same_new (o := .lst ([V.bl false, V.bl false, V.bl true, V.bl false, V.bl false] ++ [V.bl false, V.bl false, V.bl false, V.bl false, V.bl false])) m3)
      refine ⟨_, rfl, C 2, .ty "ValueError", _, true, rfl, T.exc 2 (by decide), rfl, fun u hu => hu, T.kv 2 (by decide), hx _ f3, _, rfl, if_f rfl ?_⟩
      refine ⟨_, rfl, C 2, .ty "LookupError", _, false, rfl, T.exc 2 (by decide), rfl, fun u hu => hu, T.kl 2 (by decide), hx _ f3, _, rfl, if_f rfl ?_⟩
      refine ⟨_, rfl, C 2, .ty "RuntimeError", _, false, rfl, T.exc 2 (by decide), rfl, fun u hu => hu, T.kr 2 (by decide), hx _ f3, _, rfl, if_f rfl ?_⟩
      refine ⟨_, rfl, (by show 5 ≤ sizeLine; decide), fun q4 m4 => ⟨q4, _, rfl, .inl (SqL.of upd_same), rfl, rfl, _, rfl, ?_⟩⟩
      have f4 := f3.trans (same_new (o := .lst [V.int 0, V.int 1, V.int 3, V.int 6, V.int 7]) m4)
      have kq : ∀ H2, Same _ H2 → H2 q3 = some (.lst ([V.bl false, V.bl false, V.bl true, V.bl false, V.bl false] ++ [V.bl false, V.bl false, V.bl false, V.bl false, V.bl false])) := fun H2 e => e _ _ (same_new (o := .lst [V.int 0, V.int 1, V.int 3, V.int 6, V.int 7]) m4 _ _ upd_same)
      refine if_f (by decide) ?_
      refine ⟨_, rfl, rfl, _, rfl, if_t (by decide) ⟨_, rfl, rfl, C 2, rfl, T.e2.look, T.e2.noN, d, _, v, rfl, hd _ f4, (by with_unfolding_all rfl), ?_⟩⟩
      refine ⟨_, rfl, rfl, _, rfl, if_f (by decide) ?_⟩
      refine ⟨_, rfl, rfl, _, rfl, if_f (by decide) ?_⟩
      refine ⟨_, rfl, rfl, _, rfl, if_f (by decide) ?_⟩
      refine ⟨_, rfl, _, rfl, (by show 2 ≤ sizeLine; decide), fun p5 m5 => ?_⟩
      have f6 := same_new (o := .tup [.ref q3, v]) m5
      exact k _ p5 q3 v (e1.trans (f4.trans f6)) upd_same (kq _ f6) (by unfold FieldOk; rw [if_neg (by decide)]; rw [if_neg (by decide)])
    · refine ⟨_, rfl, rfl, _, rfl, if_f (by decide) ?_⟩
      refine ⟨_, rfl, rfl, _, rfl, if_f (by decide) ?_⟩
      refine ⟨_, rfl, rfl, _, rfl, if_f (by decide) ?_⟩
      refine ⟨_, rfl, rfl, _, rfl, if_t (by decide) ?_⟩
      refine ⟨_, rfl, v, rfl, fun d nd => ⟨true, T.te 3 (by decide), fun _ a na => ?_, fun q => nomatch q⟩⟩
      have e1 : Same H (upd H d (.xd [(("value" : Str), v)])) := same_new nd
      have hd : ∀ H2, Same (upd H d (.xd [(("value" : Str), v)])) H2 → H2 d = some (.xd [(("value" : Str), v)]) := fun H2 e => e _ _ upd_same
      have hx : ∀ H2, Same (upd H d (.xd [(("value" : Str), v)])) H2 → ∀ dd, some d = some dd → ∃ fs, H2 dd = some (.xd fs) := fun H2 e dd q => by cases q; exact ⟨_, hd H2 e⟩
      have f0 := Same.refl (upd H d (.xd [(("value" : Str), v)]))
      refine ⟨_, rfl, C 3, _, _, false, rfl, T.exc 3 (by decide), rfl, fun u hu => hu, T.kit 3 0 (by decide) (by decide), hx _ f0, ?_⟩
      refine ⟨_, rfl, C 3, _, _, false, rfl, T.exc 3 (by decide), rfl, fun u hu => hu, T.kit 3 1 (by decide) (by decide), hx _ f0, ?_⟩
      refine ⟨_, rfl, C 3, _, _, false, rfl, T.exc 3 (by decide), rfl, fun u hu => hu, T.kit 3 2 (by decide) (by decide), hx _ f0, ?_⟩
      refine ⟨_, rfl, C 3, _, _, true, rfl, T.exc 3 (by decide), rfl, fun u hu => hu, T.kit 3 3 (by decide) (by decide), hx _ f0, ?_⟩
      refine ⟨_, rfl, C 3, _, _, false, rfl, T.exc 3 (by decide), rfl, fun u hu => hu, T.kit 3 4 (by decide) (by decide), hx _ f0, ?_⟩
      refine ⟨(by show 5 ≤ sizeLine; decide), fun q1 m1 => ?_⟩
      have f1 := f0.trans (same_new (o := .lst [V.bl false, V.bl false, V.bl false, V.bl true, V.bl false]) m1)
      refine ⟨_, rfl, ?_⟩
      refine ⟨_, rfl, C 3, _, _, false, rfl, T.exc 3 (by decide), rfl, fun u hu => hu, T.kit 3 5 (by decide) (by decide), hx _ f1, ?_⟩
      refine ⟨_, rfl, C 3, _, _, false, rfl, T.exc 3 (by decide), rfl, fun u hu => hu, T.kit 3 6 (by decide) (by decide), hx _ f1, ?_⟩
      refine ⟨_, rfl, C 3, _, _, false, rfl, T.exc 3 (by decide), rfl, fun u hu => hu, T.kit 3 7 (by decide) (by decide), hx _ f1, ?_⟩
      refine ⟨_, rfl, C 3, _, _, false, rfl, T.exc 3 (by decide), rfl, fun u hu => hu, T.kit 3 8 (by decide) (by decide), hx _ f1, ?_⟩
      refine ⟨_, rfl, C 3, _, _, false, rfl, T.exc 3 (by decide), rfl, fun u hu => hu, T.kit 3 9 (by decide) (by decide), hx _ f1, ?_⟩
      refine ⟨(by show 5 ≤ sizeLine; decide), fun q2 m2 => ?_⟩
      have f2 := f1.trans (same_new (o := .lst [V.bl false, V.bl false, V.bl false, V.bl false, V.bl false]) m2)
      refine ⟨q1, q2, _, _, rfl, rfl, same_new m2 _ _ upd_same, upd_same, (by show 10 ≤ sizeLine; decide), fun q3 m3 => ?_⟩
      have f3 := f2.trans (same_new (o := .lst ([V.bl false, V.bl false, V.bl false, V.bl true, V.bl false] ++ [V.bl false, V.bl false, V.bl false, V.bl false, V.bl false])) m3)
      refine ⟨_, rfl, C 3, .ty "ValueError", _, true, rfl, T.exc 3 (by decide), rfl, fun u hu => hu, T.kv 3 (by decide), hx _ f3, _, rfl, if_f rfl ?_⟩
      refine ⟨_, rfl, C 3, .ty "LookupError", _, false, rfl, T.exc 3 (by decide), rfl, fun u hu => hu, T.kl 3 (by decide), hx _ f3, _, rfl, if_f rfl ?_⟩
      refine ⟨_, rfl, C 3, .ty "RuntimeError", _, false, rfl, T.exc 3 (by decide), rfl, fun u hu => hu, T.kr 3 (by decide), hx _ f3, _, rfl, if_f rfl ?_⟩
      refine ⟨_, rfl, (by show 5 ≤ sizeLine; decide), fun q4 m4 => ⟨q4, _, rfl, .inl (SqL.of upd_same), rfl, rfl, _, rfl, ?_⟩⟩
      have f4 := f3.trans (same_new (o := .lst [V.int 0, V.int 1, V.int 3, V.int 6, V.int 7]) m4)
      have kq : ∀ H2, Same _ H2 → H2 q3 = some (.lst ([V.bl false, V.bl false, V.bl false, V.bl true, V.bl false] ++ [V.bl false, V.bl false, V.bl false, V.bl false, V.bl false])) := fun H2 e => e _ _ (same_new (o := .lst [V.int 0, V.int 1, V.int 3, V.int 6, V.int 7]) m4 _ _ upd_same)
      refine if_t (by decide) ⟨_, rfl, rfl, C 3, rfl, T.e3.look, T.e3.noN, d, _, v, rfl, hd _ f4, (by with_unfolding_all rfl), ?_⟩
      refine ⟨_, rfl, rfl, _, rfl, if_f (by decide) ?_⟩
      refine ⟨_, rfl, rfl, _, rfl, if_f (by decide) ?_⟩
      refine ⟨_, rfl, rfl, _, rfl, if_f (by decide) ?_⟩
      refine ⟨_, rfl, rfl, _, rfl, if_f (by decide) ?_⟩
      refine ⟨_, rfl, _, rfl, (by show 2 ≤ sizeLine; decide), fun p5 m5 => ?_⟩
      have f6 := same_new (o := .tup [.ref q3, v]) m5
      exact k _ p5 q3 v (e1.trans (f4.trans f6)) upd_same (kq _ f6) (by unfold FieldOk; rw [if_neg (by decide)]; rw [if_neg (by decide)])
    · refine ⟨_, rfl, rfl, _, rfl, if_f (by decide) ?_⟩
      refine ⟨_, rfl, rfl, _, rfl, if_f (by decide) ?_⟩
      refine ⟨_, rfl, rfl, _, rfl, if_f (by decide) ?_⟩
      refine ⟨_, rfl, rfl, _, rfl, if_f (by decide) ?_⟩
      refine ⟨_, rfl, rfl, _, rfl, if_t (by decide) ?_⟩
      refine ⟨_, rfl, v, rfl, fun d nd => ⟨true, T.te 4 (by decide), fun _ a na => ?_, fun q => nomatch q⟩⟩
      have e1 : Same H (upd H d (.xd [(("line" : Str), v)])) := same_new nd
      have hd : ∀ H2, Same (upd H d (.xd [(("line" : Str), v)])) H2 → H2 d = some (.xd [(("line" : Str), v)]) := fun H2 e => e _ _ upd_same
      have hx : ∀ H2, Same (upd H d (.xd [(("line" : Str), v)])) H2 → ∀ dd, some d = some dd → ∃ fs, H2 dd = some (.xd fs) := fun H2 e dd q => by cases q; exact ⟨_, hd H2 e⟩
      have f0 := Same.refl (upd H d (.xd [(("line" : Str), v)]))
      refine ⟨_, rfl, C 4, _, _, false, rfl, T.exc 4 (by decide), rfl, fun u hu => hu, T.kit 4 0 (by decide) (by decide), hx _ f0, ?_⟩
      refine ⟨_, rfl, C 4, _, _, false, rfl, T.exc 4 (by decide), rfl, fun u hu => hu, T.kit 4 1 (by decide) (by decide), hx _ f0, ?_⟩
      refine ⟨_, rfl, C 4, _, _, false, rfl, T.exc 4 (by decide), rfl, fun u hu => hu, T.kit 4 2 (by decide) (by decide), hx _ f0, ?_⟩
      refine ⟨_, rfl, C 4, _, _, false, rfl, T.exc 4 (by decide), rfl, fun u hu => hu, T.kit 4 3 (by decide) (by decide), hx _ f0, ?_⟩
      refine ⟨_, rfl, C 4, _, _, true, rfl, T.exc 4 (by decide), rfl, fun u hu => hu, T.kit 4 4 (by decide) (by decide), hx _ f0, ?_⟩
      refine ⟨(by show 5 ≤ sizeLine; decide), fun q1 m1 => ?_⟩
      have f1 := f0.trans (same_new (o := .lst [V.bl false, V.bl false, V.bl false, V.bl false, V.bl true]) m1)
      refine ⟨_, rfl, ?_⟩
      refine ⟨_, rfl, C 4, _, _, false, rfl, T.exc 4 (by decide), rfl, fun u hu => hu, T.kit 4 5 (by decide) (by decide), hx _ f1, ?_⟩
      refine ⟨_, rfl, C 4, _, _, false, rfl, T.exc 4 (by decide), rfl, fun u hu => hu, T.kit 4 6 (by decide) (by decide), hx _ f1, ?_⟩
      refine ⟨_, rfl, C 4, _, _, false, rfl, T.exc 4 (by decide), rfl, fun u hu => hu, T.kit 4 7 (by decide) (by decide), hx _ f1, ?_⟩
      refine ⟨_, rfl, C 4, _, _, false, rfl, T.exc 4 (by decide), rfl, fun u hu => hu, T.kit 4 8 (by decide) (by decide), hx _ f1, ?_⟩
      refine ⟨_, rfl, C 4, _, _, false, rfl, T.exc 4 (by decide), rfl, fun u hu => hu, T.kit 4 9 (by decide) (by decide), hx _ f1, ?_⟩
      refine ⟨(by show 5 ≤ sizeLine; decide), fun q2 m2 => ?_⟩
      have f2 := f1.trans (same_new (o := .lst [V.bl false, V.bl false, V.bl false, V.bl false, V.bl false]) m2)
      refine ⟨q1, q2, _, _, rfl, rfl, same_new m2 _ _ upd_same, upd_same, (by show 10 ≤ sizeLine; decide), fun q3 m3 => ?_⟩
      have f3 := f2.trans (same_new (o := .lst ([V.bl false, V.bl false, V.bl false, V.bl false, V.bl true] ++ [V.bl false, V.bl false, V.bl false, V.bl false, V.bl false])) m3)
      refine ⟨_, rfl, C 4, .ty "ValueError", _, true, rfl, T.exc 4 (by decide), rfl, fun u hu => hu, T.kv 4 (by decide), hx _ f3, _, rfl, if_f rfl ?_⟩
      refine ⟨_, rfl, C 4, .ty "LookupError", _, false, rfl, T.exc 4 (by decide), rfl, fun u hu => hu, T.kl 4 (by decide), hx _ f3, _, rfl, if_f rfl ?_⟩
      refine ⟨_, rfl, C 4, .ty "RuntimeError", _, false, rfl, T.exc 4 (by decide), rfl, fun u hu => hu, T.kr 4 (by decide), hx _ f3, _, rfl, if_f rfl ?_⟩
      refine ⟨_, rfl, (by show 5 ≤ sizeLine; decide), fun q4 m4 => ⟨q4, _, rfl, .inl (SqL.of upd_same), rfl, rfl, _, rfl, ?_⟩⟩
      have f4 := f3.trans (same_new (o := .lst [V.int 0, V.int 1, V.int 3, V.int 6, V.int 7]) m4)
      have kq : ∀ H2, Same _ H2 → H2 q3 = some (.lst ([V.bl false, V.bl false, V.bl false, V.bl false, V.bl true] ++ [V.bl false, V.bl false, V.bl false, V.bl false, V.bl false])) := fun H2 e => e _ _ (same_new (o := .lst [V.int 0, V.int 1, V.int 3, V.int 6, V.int 7]) m4 _ _ upd_same)
      refine if_f (by decide) ?_
      refine ⟨_, rfl, rfl, _, rfl, if_f (by decide) ?_⟩
      refine ⟨_, rfl, rfl, _, rfl, if_t (by decide) ⟨_, rfl, rfl, C 4, rfl, T.e4.look, T.e4.noN, d, _, v, rfl, hd _ f4, (by with_unfolding_all rfl), ?_⟩⟩
      refine ⟨_, rfl, rfl, _, rfl, if_f (by decide) ?_⟩
      refine ⟨_, rfl, rfl, _, rfl, if_f (by decide) ?_⟩
      refine ⟨_, rfl, _, rfl, (by show 2 ≤ sizeLine; decide), fun p5 m5 => ?_⟩
      have f6 := same_new (o := .tup [.ref q3, v]) m5
      exact k _ p5 q3 v (e1.trans (f4.trans f6)) upd_same (kq _ f6) (by unfold FieldOk; rw [if_neg (by decide)]; rw [if_neg (by decide)])
    · refine ⟨_, rfl, rfl, _, rfl, if_f (by decide) ?_⟩
      refine ⟨_, rfl, rfl, _, rfl, if_f (by decide) ?_⟩
      refine ⟨_, rfl, rfl, _, rfl, if_f (by decide) ?_⟩
      refine ⟨_, rfl, rfl, _, rfl, if_f (by decide) ?_⟩
      refine ⟨_, rfl, rfl, _, rfl, if_f (by decide) ?_⟩
      refine ⟨_, rfl, rfl, _, rfl, if_t (by decide) ?_⟩
      refine ⟨_, rfl, v, rfl, fun d nd => ⟨true, T.te 5 (by decide), fun _ a na => ?_, fun q => nomatch q⟩⟩
      have e1 : Same H (upd H d (.xd [(("limit" : Str), v)])) := same_new nd
      have hd : ∀ H2, Same (upd H d (.xd [(("limit" : Str), v)])) H2 → H2 d = some (.xd [(("limit" : Str), v)]) := fun H2 e => e _ _ upd_same
      have hx : ∀ H2, Same (upd H d (.xd [(("limit" : Str), v)])) H2 → ∀ dd, some d = some dd → ∃ fs, H2 dd = some (.xd fs) := fun H2 e dd q => by cases q; exact ⟨_, hd H2 e⟩
      have f0 := Same.refl (upd H d (.xd [(("limit" : Str), v)]))
      refine ⟨_, rfl, C 5, _, _, false, rfl, T.exc 5 (by decide), rfl, fun u hu => hu, T.kit 5 0 (by decide) (by decide), hx _ f0, ?_⟩
      refine ⟨_, rfl, C 5, _, _, false, rfl, T.exc 5 (by decide), rfl, fun u hu => hu, T.kit 5 1 (by decide) (by decide), hx _ f0, ?_⟩
      refine ⟨_, rfl, C 5, _, _, false, rfl, T.exc 5 (by decide), rfl, fun u hu => hu, T.kit 5 2 (by decide) (by decide), hx _ f0, ?_⟩
      refine ⟨_, rfl, C 5, _, _, false, rfl, T.exc 5 (by decide), rfl, fun u hu => hu, T.kit 5 3 (by decide) (by decide), hx _ f0, ?_⟩
      refine ⟨_, rfl, C 5, _, _, false, rfl, T.exc 5 (by decide), rfl, fun u hu => hu, T.kit 5 4 (by decide) (by decide), hx _ f0, ?_⟩
      refine ⟨(by show 5 ≤ sizeLine; decide), fun q1 m1 => ?_⟩
      have f1 := f0.trans (same_new (o := .lst [V.bl false, V.bl false, V.bl false, V.bl false, V.bl false]) m1)
      refine ⟨_, rfl, ?_⟩
      refine ⟨_, rfl, C 5, _, _, true, rfl, T.exc 5 (by decide), rfl, fun u hu => hu, T.kit 5 5 (by decide) (by decide), hx _ f1, ?_⟩
      refine ⟨_, rfl, C 5, _, _, false, rfl, T.exc 5 (by decide), rfl, fun u hu => hu, T.kit 5 6 (by decide) (by decide), hx _ f1, ?_⟩
      refine ⟨_, rfl, C 5, _, _, false, rfl, T.exc 5 (by decide), rfl, fun u hu => hu, T.kit 5 7 (by decide) (by decide), hx _ f1, ?_⟩
      refine ⟨_, rfl, C 5, _, _, false, rfl, T.exc 5 (by decide), rfl, fun u hu => hu, T.kit 5 8 (by decide) (by decide), hx _ f1, ?_⟩
      refine ⟨_, rfl, C 5, _, _, false, rfl, T.exc 5 (by decide), rfl, fun u hu => hu, T.kit 5 9 (by decide) (by decide), hx _ f1, ?_⟩
      refine ⟨(by show 5 ≤ sizeLine; decide), fun q2 m2 => ?_⟩
      have f2 := f1.trans (same_new (o := .lst [V.bl true, V.bl false, V.bl false, V.bl false, V.bl false]) m2)
      refine ⟨q1, q2, _, _, rfl, rfl, same_new m2 _ _ upd_same, upd_same, (by show 10 ≤ sizeLine; decide), fun q3 m3 => ?_⟩
      have f3 := f2.trans (same_new (o := .lst ([V.bl false, V.bl false, V.bl false, V.bl false, V.bl false] ++ [V.bl true, V.bl false, V.bl false, V.bl false, V.bl false])) m3)
      refine ⟨_, rfl, C 5, .ty "ValueError", _, true, rfl, T.exc 5 (by decide), rfl, fun u hu => hu, T.kv 5 (by decide), hx _ f3, _, rfl, if_f rfl ?_⟩
      refine ⟨_, rfl, C 5, .ty "LookupError", _, false, rfl, T.exc 5 (by decide), rfl, fun u hu => hu, T.kl 5 (by decide), hx _ f3, _, rfl, if_f rfl ?_⟩
      refine ⟨_, rfl, C 5, .ty "RuntimeError", _, false, rfl, T.exc 5 (by decide), rfl, fun u hu => hu, T.kr 5 (by decide), hx _ f3, _, rfl, if_f rfl ?_⟩
      refine ⟨_, rfl, (by show 5 ≤ sizeLine; decide), fun q4 m4 => ⟨q4, _, rfl, .inl (SqL.of upd_same), rfl, rfl, _, rfl, ?_⟩⟩
      have f4 := f3.trans (same_new (o := .lst [V.int 0, V.int 1, V.int 3, V.int 6, V.int 7]) m4)
      have kq : ∀ H2, Same _ H2 → H2 q3 = some (.lst ([V.bl false, V.bl false, V.bl false, V.bl false, V.bl false] ++ [V.bl true, V.bl false, V.bl false, V.bl false, V.bl false])) := fun H2 e => e _ _ (same_new (o := .lst [V.int 0, V.int 1, V.int 3, V.int 6, V.int 7]) m4 _ _ upd_same)
      refine if_f (by decide) ?_
      refine ⟨_, rfl, rfl, _, rfl, if_f (by decide) ?_⟩
      refine ⟨_, rfl, rfl, _, rfl, if_f (by decide) ?_⟩
      refine ⟨_, rfl, rfl, _, rfl, if_t (by decide) ⟨_, rfl, rfl, C 5, rfl, T.e5.look, T.e5.noN, d, _, v, rfl, hd _ f4, (by with_unfolding_all rfl), ?_⟩⟩
      refine ⟨_, rfl, rfl, _, rfl, if_f (by decide) ?_⟩
      refine ⟨_, rfl, _, rfl, (by show 2 ≤ sizeLine; decide), fun p5 m5 => ?_⟩
      have f6 := same_new (o := .tup [.ref q3, v]) m5
      exact k _ p5 q3 v (e1.trans (f4.trans f6)) upd_same (kq _ f6) (by unfold FieldOk; rw [if_neg (by decide)]; rw [if_neg (by decide)])
    · refine ⟨_, rfl, rfl, _, rfl, if_f (by decide) ?_⟩
      refine ⟨_, rfl, rfl, _, rfl, if_f (by decide) ?_⟩
      refine ⟨_, rfl, rfl, _, rfl, if_f (by decide) ?_⟩
      refine ⟨_, rfl, rfl, _, rfl, if_f (by decide) ?_⟩
      refine ⟨_, rfl, rfl, _, rfl, if_f (by decide) ?_⟩
      refine ⟨_, rfl, rfl, _, rfl, if_f (by decide) ?_⟩
      refine ⟨_, rfl, rfl, _, rfl, if_t (by decide) ?_⟩
      refine ⟨_, rfl, v, rfl, fun d nd => ⟨true, T.te 6 (by decide), fun _ a na => ?_, fun q => nomatch q⟩⟩
      have e1 : Same H (upd H d (.xd [(("value" : Str), v)])) := same_new nd
      have hd : ∀ H2, Same (upd H d (.xd [(("value" : Str), v)])) H2 → H2 d = some (.xd [(("value" : Str), v)]) := fun H2 e => e _ _ upd_same
      have hx : ∀ H2, Same (upd H d (.xd [(("value" : Str), v)])) H2 → ∀ dd, some d = some dd → ∃ fs, H2 dd = some (.xd fs) := fun H2 e dd q => by cases q; exact ⟨_, hd H2 e⟩
      have f0 := Same.refl (upd H d (.xd [(("value" : Str), v)]))
      refine ⟨_, rfl, C 6, _, _, false, rfl, T.exc 6 (by decide), rfl, fun u hu => hu, T.kit 6 0 (by decide) (by decide), hx _ f0, ?_⟩
      refine ⟨_, rfl, C 6, _, _, false, rfl, T.exc 6 (by decide), rfl, fun u hu => hu, T.kit 6 1 (by decide) (by decide), hx _ f0, ?_⟩
      refine ⟨_, rfl, C 6, _, _, false, rfl, T.exc 6 (by decide), rfl, fun u hu => hu, T.kit 6 2 (by decide) (by decide), hx _ f0, ?_⟩
      refine ⟨_, rfl, C 6, _, _, false, rfl, T.exc 6 (by decide), rfl, fun u hu => hu, T.kit 6 3 (by decide) (by decide), hx _ f0, ?_⟩
      refine ⟨_, rfl, C 6, _, _, false, rfl, T.exc 6 (by decide), rfl, fun u hu => hu, T.kit 6 4 (by decide) (by decide), hx _ f0, ?_⟩
      refine ⟨(by show 5 ≤ sizeLine; decide), fun q1 m1 => ?_⟩
      have f1 := f0.trans (same_new (o := .lst [V.bl false, V.bl false, V.bl false, V.bl false, V.bl false]) m1)
      refine ⟨_, rfl, ?_⟩
      refine ⟨_, rfl, C 6, _, _, false, rfl, T.exc 6 (by decide), rfl, fun u hu => hu, T.kit 6 5 (by decide) (by decide), hx _ f1, ?_⟩
      refine ⟨_, rfl, C 6, _, _, true, rfl, T.exc 6 (by decide), rfl, fun u hu => hu, T.kit 6 6 (by decide) (by decide), hx _ f1, ?_⟩
      refine ⟨_, rfl, C 6, _, _, false, rfl, T.exc 6 (by decide), rfl, fun u hu => hu, T.kit 6 7 (by decide) (by decide), hx _ f1, ?_⟩
      refine ⟨_, rfl, C 6, _, _, false, rfl, T.exc 6 (by decide), rfl, fun u hu => hu, T.kit 6 8 (by decide) (by decide), hx _ f1, ?_⟩
      refine ⟨_, rfl, C 6, _, _, false, rfl, T.exc 6 (by decide), rfl, fun u hu => hu, T.kit 6 9 (by decide) (by decide), hx _ f1, ?_⟩
      refine ⟨(by show 5 ≤ sizeLine; decide), fun q2 m2 => ?_⟩
      have f2 := f1.trans (same_new (o := .lst [V.bl false, V.bl true, V.bl false, V.bl false, V.bl false]) m2)
      refine ⟨q1, q2, _, _, rfl, rfl, same_new m2 _ _ upd_same, upd_same, (by show 10 ≤ sizeLine; decide), fun q3 m3 => ?_⟩
      have f3 := f2.trans (same_new (o := .lst ([V.bl false, V.bl false, V.bl false, V.bl false, V.bl false] ++ [V.bl false, V.bl true, V.bl false, V.bl false, V.bl false])) m3)
      refine ⟨_, rfl, C 6, .ty "ValueError", _, true, rfl, T.exc 6 (by decide), rfl, fun u hu => hu, T.kv 6 (by decide), hx _ f3, _, rfl, if_f rfl ?_⟩
      refine ⟨_, rfl, C 6, .ty "LookupError", _, false, rfl, T.exc 6 (by decide), rfl, fun u hu => hu, T.kl 6 (by decide), hx _ f3, _, rfl, if_f rfl ?_⟩
      refine ⟨_, rfl, C 6, .ty "RuntimeError", _, false, rfl, T.exc 6 (by decide), rfl, fun u hu => hu, T.kr 6 (by decide), hx _ f3, _, rfl, if_f rfl ?_⟩
      refine ⟨_, rfl, (by show 5 ≤ sizeLine; decide), fun q4 m4 => ⟨q4, _, rfl, .inl (SqL.of upd_same), rfl, rfl, _, rfl, ?_⟩⟩
      have f4 := f3.trans (same_new (o := .lst [V.int 0, V.int 1, V.int 3, V.int 6, V.int 7]) m4)
      have kq : ∀ H2, Same _ H2 → H2 q3 = some (.lst ([V.bl false, V.bl false, V.bl false, V.bl false, V.bl false] ++ [V.bl false, V.bl true, V.bl false, V.bl false, V.bl false])) := fun H2 e => e _ _ (same_new (o := .lst [V.int 0, V.int 1, V.int 3, V.int 6, V.int 7]) m4 _ _ upd_same)
      refine if_t (by decide) ⟨_, rfl, rfl, C 6, rfl, T.e6.look, T.e6.noN, d, _, v, rfl, hd _ f4, (by with_unfolding_all rfl), ?_⟩
      refine ⟨_, rfl, rfl, _, rfl, if_f (by decide) ?_⟩
      refine ⟨_, rfl, rfl, _, rfl, if_f (by decide) ?_⟩
      refine ⟨_, rfl, rfl, _, rfl, if_f (by decide) ?_⟩
      refine ⟨_, rfl, rfl, _, rfl, if_f (by decide) ?_⟩
      refine ⟨_, rfl, _, rfl, (by show 2 ≤ sizeLine; decide), fun p5 m5 => ?_⟩
      have f6 := same_new (o := .tup [.ref q3, v]) m5
      exact k _ p5 q3 v (e1.trans (f4.trans f6)) upd_same (kq _ f6) (by unfold FieldOk; rw [if_neg (by decide)]; rw [if_neg (by decide)])
    · refine ⟨_, rfl, rfl, _, rfl, if_f (by decide) ?_⟩
      refine ⟨_, rfl, rfl, _, rfl, if_f (by decide) ?_⟩
      refine ⟨_, rfl, rfl, _, rfl, if_f (by decide) ?_⟩
      refine ⟨_, rfl, rfl, _, rfl, if_f (by decide) ?_⟩
      refine ⟨_, rfl, rfl, _, rfl, if_f (by decide) ?_⟩
      refine ⟨_, rfl, rfl, _, rfl, if_f (by decide) ?_⟩
      refine ⟨_, rfl, rfl, _, rfl, if_f (by decide) ?_⟩
      refine ⟨_, rfl, rfl, _, rfl, if_t (by decide) ?_⟩
      refine ⟨_, rfl, v, rfl, fun d nd => ⟨true, T.te 7 (by decide), fun _ a na => ?_, fun q => nomatch q⟩⟩
      have e1 : Same H (upd H d (.xd [(("value" : Str), v)])) := same_new nd
      have hd : ∀ H2, Same (upd H d (.xd [(("value" : Str), v)])) H2 → H2 d = some (.xd [(("value" : Str), v)]) := fun H2 e => e _ _ upd_same
      have hx : ∀ H2, Same (upd H d (.xd [(("value" : Str), v)])) H2 → ∀ dd, some d = some dd → ∃ fs, H2 dd = some (.xd fs) := fun H2 e dd q => by cases q; exact ⟨_, hd H2 e⟩
      have f0 := Same.refl (upd H d (.xd [(("value" : Str), v)]))
      refine ⟨_, rfl, C 7, _, _, false, rfl, T.exc 7 (by decide), rfl, fun u hu => hu, T.kit 7 0 (by decide) (by decide), hx _ f0, ?_⟩
      refine ⟨_, rfl, C 7, _, _, false, rfl, T.exc 7 (by decide), rfl, fun u hu => hu, T.kit 7 1 (by decide) (by decide), hx _ f0, ?_⟩
      refine ⟨_, rfl, C 7, _, _, false, rfl, T.exc 7 (by decide), rfl, fun u hu => hu, T.kit 7 2 (by decide) (by decide), hx _ f0, ?_⟩
      refine ⟨_, rfl, C 7, _, _, false, rfl, T.exc 7 (by decide), rfl, fun u hu => hu, T.kit 7 3 (by decide) (by decide), hx _ f0, ?_⟩
      refine ⟨_, rfl, C 7, _, _, false, rfl, T.exc 7 (by decide), rfl, fun u hu => hu, T.kit 7 4 (by decide) (by decide), hx _ f0, ?_⟩
      refine ⟨(by show 5 ≤ sizeLine; decide), fun q1 m1 => ?_⟩
      have f1 := f0.trans (same_new (o := .lst [V.bl false, V.bl false, V.bl false, V.bl false, V.bl false]) m1)
      refine ⟨_, rfl, ?_⟩
      refine ⟨_, rfl, C 7, _, _, false, rfl, T.exc 7 (by decide), rfl, fun u hu => hu, T.kit 7 5 (by decide) (by decide), hx _ f1, ?_⟩
      refine ⟨_, rfl, C 7, _, _, false, rfl, T.exc 7 (by decide), rfl, fun u hu => hu, T.kit 7 6 (by decide) (by decide), hx _ f1, ?_⟩
      refine ⟨_, rfl, C 7, _, _, true, rfl, T.exc 7 (by decide), rfl, fun u hu => hu, T.kit 7 7 (by decide) (by decide), hx _ f1, ?_⟩
      refine ⟨_, rfl, C 7, _, _, false, rfl, T.exc 7 (by decide), rfl, fun u hu => hu, T.kit 7 8 (by decide) (by decide), hx _ f1, ?_⟩
      refine ⟨_, rfl, C 7, _, _, false, rfl, T.exc 7 (by decide), rfl, fun u hu => hu, T.kit 7 9 (by decide) (by decide), hx _ f1, ?_⟩
      refine ⟨(by show 5 ≤ sizeLine; decide), fun q2 m2 => ?_⟩
      have f2 := f1.trans (same_new (o := .lst [V.bl false, V.bl false, V.bl true, V.bl false, V.bl false]) m2)
      refine ⟨q1, q2, _, _, rfl, rfl, same_new m2 _ _ upd_same, upd_same, (by show 10 ≤ sizeLine; decide), fun q3 m3 => ?_⟩
      have f3 := f2.trans (same_new (o := .lst ([V.bl false, V.bl false, V.bl false, V.bl false, V.bl false] ++ [V.bl false, V.bl false, V.bl true, V.bl false, V.bl false])) m3)
      refine ⟨_, rfl, C 7, .ty "ValueError", _, true, rfl, T.exc 7 (by decide), rfl, fun u hu => hu, T.kv 7 (by decide), hx _ f3, _, rfl, if_f rfl ?_⟩
      refine ⟨_, rfl, C 7, .ty "LookupError", _, false, rfl, T.exc 7 (by decide), rfl, fun u hu => hu, T.kl 7 (by decide), hx _ f3, _, rfl, if_f rfl ?_⟩
      refine ⟨_, rfl, C 7, .ty "RuntimeError", _, false, rfl, T.exc 7 (by decide), rfl, fun u hu => hu, T.kr 7 (by decide), hx _ f3, _, rfl, if_f rfl ?_⟩
      refine ⟨_, rfl, (by show 5 ≤ sizeLine; decide), fun q4 m4 => ⟨q4, _, rfl, .inl (SqL.of upd_same), rfl, rfl, _, rfl, ?_⟩⟩
      have f4 := f3.trans (same_new (o := .lst [V.int 0, V.int 1, V.int 3, V.int 6, V.int 7]) m4)
      have kq : ∀ H2, Same _ H2 → H2 q3 = some (.lst ([V.bl false, V.bl false, V.bl false, V.bl false, V.bl false] ++ [V.bl false, V.bl false, V.bl true, V.bl false, V.bl false])) := fun H2 e => e _ _ (same_new (o := .lst [V.int 0, V.int 1, V.int 3, V.int 6, V.int 7]) m4 _ _ upd_same)
      refine if_t (by decide) ⟨_, rfl, rfl, C 7, rfl, T.e7.look, T.e7.noN, d, _, v, rfl, hd _ f4, (by with_unfolding_all rfl), ?_⟩
      refine ⟨_, rfl, rfl, _, rfl, if_f (by decide) ?_⟩
      refine ⟨_, rfl, rfl, _, rfl, if_f (by decide) ?_⟩
      refine ⟨_, rfl, rfl, _, rfl, if_f (by decide) ?_⟩
      refine ⟨_, rfl, rfl, _, rfl, if_f (by decide) ?_⟩
      refine ⟨_, rfl, _, rfl, (by show 2 ≤ sizeLine; decide), fun p5 m5 => ?_⟩
      have f6 := same_new (o := .tup [.ref q3, v]) m5
      exact k _ p5 q3 v (e1.trans (f4.trans f6)) upd_same (kq _ f6) (by unfold FieldOk; rw [if_neg (by decide)]; rw [if_neg (by decide)])
    · refine ⟨_, rfl, rfl, _, rfl, if_f (by decide) ?_⟩
      refine ⟨_, rfl, rfl, _, rfl, if_f (by decide) ?_⟩
      refine ⟨_, rfl, rfl, _, rfl, if_f (by decide) ?_⟩
      refine ⟨_, rfl, rfl, _, rfl, if_f (by decide) ?_⟩
      refine ⟨_, rfl, rfl, _, rfl, if_f (by decide) ?_⟩
      refine ⟨_, rfl, rfl, _, rfl, if_f (by decide) ?_⟩
      refine ⟨_, rfl, rfl, _, rfl, if_f (by decide) ?_⟩
      refine ⟨_, rfl, rfl, _, rfl, if_f (by decide) ?_⟩
      refine ⟨_, rfl, rfl, _, rfl, if_t (by decide) ?_⟩
      refine ⟨_, rfl, _, rfl, v, w, rfl, fun d nd => ⟨true, T.te 8 (by decide), fun _ a na => ?_, fun q => nomatch q⟩⟩
      have e1 : Same H (upd H d (.xd [(("names" : Str), w), (("reason" : Str), v)])) := same_new nd
      have hd : ∀ H2, Same (upd H d (.xd [(("names" : Str), w), (("reason" : Str), v)])) H2 → H2 d = some (.xd [(("names" : Str), w), (("reason" : Str), v)]) := fun H2 e => e _ _ upd_same
      have hx : ∀ H2, Same (upd H d (.xd [(("names" : Str), w), (("reason" : Str), v)])) H2 → ∀ dd, some d = some dd → ∃ fs, H2 dd = some (.xd fs) := fun H2 e dd q => by cases q; exact ⟨_, hd H2 e⟩
      have f0 := Same.refl (upd H d (.xd [(("names" : Str), w), (("reason" : Str), v)]))
      refine ⟨_, rfl, C 8, _, _, false, rfl, T.exc 8 (by decide), rfl, fun u hu => hu, T.kit 8 0 (by decide) (by decide), hx _ f0, ?_⟩
      refine ⟨_, rfl, C 8, _, _, false, rfl, T.exc 8 (by decide), rfl, fun u hu => hu, T.kit 8 1 (by decide) (by decide), hx _ f0, ?_⟩
      refine ⟨_, rfl, C 8, _, _, false, rfl, T.exc 8 (by decide), rfl, fun u hu => hu, T.kit 8 2 (by decide) (by decide), hx _ f0, ?_⟩
      refine ⟨_, rfl, C 8, _, _, false, rfl, T.exc 8 (by decide), rfl, fun u hu => hu, T.kit 8 3 (by decide) (by decide), hx _ f0, ?_⟩
      refine ⟨_, rfl, C 8, _, _, false, rfl, T.exc 8 (by decide), rfl, fun u hu => hu, T.kit 8 4 (by decide) (by decide), hx _ f0, ?_⟩
      refine ⟨(by show 5 ≤ sizeLine; decide), fun q1 m1 => ?_⟩
      have f1 := f0.trans (same_new (o := .lst [V.bl false, V.bl false, V.bl false, V.bl false, V.bl false]) m1)
      refine ⟨_, rfl, ?_⟩
      refine ⟨_, rfl, C 8, _, _, false, rfl, T.exc 8 (by decide), rfl, fun u hu => hu, T.kit 8 5 (by decide) (by decide), hx _ f1, ?_⟩
      refine ⟨_, rfl, C 8, _, _, false, rfl, T.exc 8 (by decide), rfl, fun u hu => hu, T.kit 8 6 (by decide) (by decide), hx _ f1, ?_⟩
      refine ⟨_, rfl, C 8, _, _, false, rfl, T.exc 8 (by decide), rfl, fun u hu => hu, T.kit 8 7 (by decide) (by decide), hx _ f1, ?_⟩
      refine ⟨_, rfl, C 8, _, _, true, rfl, T.exc 8 (by decide), rfl, fun u hu => hu, T.kit 8 8 (by decide) (by decide), hx _ f1, ?_⟩
      refine ⟨_, rfl, C 8, _, _, false, rfl, T.exc 8 (by decide), rfl, fun u hu => hu, T.kit 8 9 (by decide) (by decide), hx _ f1, ?_⟩
      refine ⟨(by show 5 ≤ sizeLine; decide), fun q2 m2 => ?_⟩
      have f2 := f1.trans (same_new (o := .lst [V.bl false, V.bl false, V.bl false, V.bl true, V.bl false]) m2)
      refine ⟨q1, q2, _, _, rfl, rfl, same_new m2 _ _ upd_same, upd_same, (by show 10 ≤ sizeLine; decide), fun q3 m3 => ?_⟩
      have f3 := f2.trans (same_new (o := .lst ([V.bl false, V.bl false, V.bl false, V.bl false, V.bl false] ++ [V.bl false, V.bl false, V.bl false, V.bl true, V.bl false])) m3)
      refine ⟨_, rfl, C 8, .ty "ValueError", _, true, rfl, T.exc 8 (by decide), rfl, fun u hu => hu, T.kv 8 (by decide), hx _ f3, _, rfl, if_f rfl ?_⟩
      refine ⟨_, rfl, C 8, .ty "LookupError", _, false, rfl, T.exc 8 (by decide), rfl, fun u hu => hu, T.kl 8 (by decide), hx _ f3, _, rfl, if_f rfl ?_⟩
      refine ⟨_, rfl, C 8, .ty "RuntimeError", _, false, rfl, T.exc 8 (by decide), rfl, fun u hu => hu, T.kr 8 (by decide), hx _ f3, _, rfl, if_f rfl ?_⟩
      refine ⟨_, rfl, (by show 5 ≤ sizeLine; decide), fun q4 m4 => ⟨q4, _, rfl, .inl (SqL.of upd_same), rfl, rfl, _, rfl, ?_⟩⟩
      have f4 := f3.trans (same_new (o := .lst [V.int 0, V.int 1, V.int 3, V.int 6, V.int 7]) m4)
      have kq : ∀ H2, Same _ H2 → H2 q3 = some (.lst ([V.bl false, V.bl false, V.bl false, V.bl false, V.bl false] ++ [V.bl false, V.bl false, V.bl false, V.bl true, V.bl false])) := fun H2 e => e _ _ (same_new (o := .lst [V.int 0, V.int 1, V.int 3, V.int 6, V.int 7]) m4 _ _ upd_same)
      refine if_f (by decide) ?_
      refine ⟨_, rfl, rfl, _, rfl, if_f (by decide) ?_⟩
      refine ⟨_, rfl, rfl, _, rfl, if_f (by decide) ?_⟩
      refine ⟨_, rfl, rfl, _, rfl, if_f (by decide) ?_⟩
      refine ⟨_, rfl, rfl, _, rfl, if_t (by decide) ⟨_, rfl, rfl, C 8, rfl, ⟨T.e8.ga, T.e8.gg, T.e8.exC, T.e8.hdC⟩, T.e8.no1, d, _, v, rfl, hd _ f4, (by with_unfolding_all rfl), _, rfl, rfl, C 8, rfl, ⟨T.e8.ga, T.e8.gg, T.e8.exC, T.e8.hdC⟩, T.e8.no2, d, _, w, rfl, hd _ f4, (by with_unfolding_all rfl), (by show 2 ≤ sizeLine; decide), fun t mt => ?_⟩⟩
      have f5 := same_new (o := .tup [v, w]) mt
      refine ⟨_, rfl, _, rfl, (by show 2 ≤ sizeLine; decide), fun p5 m5 => ?_⟩
      have f6 := same_new (o := .tup [.ref q3, .ref t]) m5
      exact k _ p5 q3 (.ref t) (e1.trans (f4.trans (f5.trans f6))) upd_same (kq _ (f5.trans f6)) (by unfold FieldOk; rw [if_pos rfl]; exact ⟨t, rfl, f6 _ _ upd_same⟩)
    · refine ⟨_, rfl, rfl, _, rfl, if_f (by decide) ?_⟩
      refine ⟨_, rfl, rfl, _, rfl, if_f (by decide) ?_⟩
      refine ⟨_, rfl, rfl, _, rfl, if_f (by decide) ?_⟩
      refine ⟨_, rfl, rfl, _, rfl, if_f (by decide) ?_⟩
      refine ⟨_, rfl, rfl, _, rfl, if_f (by decide) ?_⟩
      refine ⟨_, rfl, rfl, _, rfl, if_f (by decide) ?_⟩
      refine ⟨_, rfl, rfl, _, rfl, if_f (by decide) ?_⟩
      refine ⟨_, rfl, rfl, _, rfl, if_f (by decide) ?_⟩
      refine ⟨_, rfl, rfl, _, rfl, if_f (by decide) ?_⟩
      refine ⟨true, T.te 9 (by decide), fun _ a na => ?_, fun q => nomatch q⟩
      have e1 : Same H H := Same.refl H
      have hx : ∀ H2, Same H H2 → ∀ dd, none = some dd → ∃ fs, H2 dd = some (.xd fs) := fun H2 e dd q => nomatch q
      have f0 := Same.refl H
      refine ⟨_, rfl, C 9, _, _, false, rfl, T.exc 9 (by decide), rfl, fun u hu => hu, T.kit 9 0 (by decide) (by decide), hx _ f0, ?_⟩
      refine ⟨_, rfl, C 9, _, _, false, rfl, T.exc 9 (by decide), rfl, fun u hu => hu, T.kit 9 1 (by decide) (by decide), hx _ f0, ?_⟩
      refine ⟨_, rfl, C 9, _, _, false, rfl, T.exc 9 (by decide), rfl, fun u hu => hu, T.kit 9 2 (by decide) (by decide), hx _ f0, ?_⟩
      refine ⟨_, rfl, C 9, _, _, false, rfl, T.exc 9 (by decide), rfl, fun u hu => hu, T.kit 9 3 (by decide) (by decide), hx _ f0, ?_⟩
      refine ⟨_, rfl, C 9, _, _, false, rfl, T.exc 9 (by decide), rfl, fun u hu => hu, T.kit 9 4 (by decide) (by decide), hx _ f0, ?_⟩
      refine ⟨(by show 5 ≤ sizeLine; decide), fun q1 m1 => ?_⟩
      have f1 := f0.trans (same_new (o := .lst [V.bl false, V.bl false, V.bl false, V.bl false, V.bl false]) m1)
      refine ⟨_, rfl, ?_⟩
      refine ⟨_, rfl, C 9, _, _, false, rfl, T.exc 9 (by decide), rfl, fun u hu => hu, T.kit 9 5 (by decide) (by decide), hx _ f1, ?_⟩
      refine ⟨_, rfl, C 9, _, _, false, rfl, T.exc 9 (by decide), rfl, fun u hu => hu, T.kit 9 6 (by decide) (by decide), hx _ f1, ?_⟩
      refine ⟨_, rfl, C 9, _, _, false, rfl, T.exc 9 (by decide), rfl, fun u hu => hu, T.kit 9 7 (by decide) (by decide), hx _ f1, ?_⟩
      refine ⟨_, rfl, C 9, _, _, false, rfl, T.exc 9 (by decide), rfl, fun u hu => hu, T.kit 9 8 (by decide) (by decide), hx _ f1, ?_⟩
      refine ⟨_, rfl, C 9, _, _, true, rfl, T.exc 9 (by decide), rfl, fun u hu => hu, T.kit 9 9 (by decide) (by decide), hx _ f1, ?_⟩
      refine ⟨(by show 5 ≤ sizeLine; decide), fun q2 m2 => ?_⟩
      have f2 := f1.trans (same_new (o := .lst [V.bl false, V.bl false, V.bl false, V.bl false, V.bl true]) m2)
      refine ⟨q1, q2, _, _, rfl, rfl, same_new m2 _ _ upd_same, upd_same, (by show 10 ≤ sizeLine; decide), fun q3 m3 => ?_⟩
      have f3 := f2.trans (same_new (o := .lst ([V.bl false, V.bl false, V.bl false, V.bl false, V.bl false] ++ [V.bl false, V.bl false, V.bl false, V.bl false, V.bl true])) m3)
      refine ⟨_, rfl, C 9, .ty "ValueError", _, true, rfl, T.exc 9 (by decide), rfl, fun u hu => hu, T.kv 9 (by decide), hx _ f3, _, rfl, if_f rfl ?_⟩
      refine ⟨_, rfl, C 9, .ty "LookupError", _, false, rfl, T.exc 9 (by decide), rfl, fun u hu => hu, T.kl 9 (by decide), hx _ f3, _, rfl, if_f rfl ?_⟩
      refine ⟨_, rfl, C 9, .ty "RuntimeError", _, false, rfl, T.exc 9 (by decide), rfl, fun u hu => hu, T.kr 9 (by decide), hx _ f3, _, rfl, if_f rfl ?_⟩
      refine ⟨_, rfl, (by show 5 ≤ sizeLine; decide), fun q4 m4 => ⟨q4, _, rfl, .inl (SqL.of upd_same), rfl, rfl, _, rfl, ?_⟩⟩
      have f4 := f3.trans (same_new (o := .lst [V.int 0, V.int 1, V.int 3, V.int 6, V.int 7]) m4)
      have kq : ∀ H2, Same _ H2 → H2 q3 = some (.lst ([V.bl false, V.bl false, V.bl false, V.bl false, V.bl false] ++ [V.bl false, V.bl false, V.bl false, V.bl false, V.bl true])) := fun H2 e => e _ _ (same_new (o := .lst [V.int 0, V.int 1, V.int 3, V.int 6, V.int 7]) m4 _ _ upd_same)
      refine if_f (by decide) ?_
      refine ⟨_, rfl, rfl, _, rfl, if_f (by decide) ?_⟩
      refine ⟨_, rfl, rfl, _, rfl, if_f (by decide) ?_⟩
      refine ⟨_, rfl, rfl, _, rfl, if_f (by decide) ?_⟩
      refine ⟨_, rfl, rfl, _, rfl, if_f (by decide) ?_⟩
      refine ⟨_, rfl, _, rfl, (by show 2 ≤ sizeLine; decide), fun p5 m5 => ?_⟩
      have f6 := same_new (o := .tup [.ref q3, V.non]) m5
      exact k _ p5 q3 .non (e1.trans (f4.trans f6)) upd_same (kq _ f6) (by unfold FieldOk; rw [if_neg (by decide)]; rw [if_pos rfl])
end
end LW
set_option Elab.async false
set_option linter.all false
set_option maxRecDepth 100000
set_option maxHeartbeats 8000000
/-! k09: law. -/
namespace LW
open PySem L2
def spLaw (K : PySem.W.Frag) : Sp := fun vs H Q _ => ∃ (a : Addr) (ns : List Int), vs = [.ref a] ∧ SqL K H a (ns.map V.int) ∧ ∀ H', Q (.bl true) H'
structure TxtL (prog : Program) (K : PySem.W.Frag) (mg : Str → Option Value) (C F : Nat → Addr) (L fT fP fA fR : Addr) : Prop where
  d : TxtD K mg fT
  a : TxtA K mg fA
  r : TxtR prog K mg C F L
  gP : mg "_law_pick" = some (.ref fP)
  kP : PySem.W.keepIn K (.ref fP) = true
  gR : mg "_law_raised" = some (.ref fR)
  kR : PySem.W.keepIn K (.ref fR) = true
def kL (n : Int) (m : Nat) : List V := (List.range m).map fun (i : Nat) => V.bl (decide ((i : Int) = n))
def kD (n : Int) (m : Nat) : List PyData := (List.range m).map fun (i : Nat) => PyData.bool (decide ((i : Int) = n))
theorem kL_succ (n : Int) (m : Nat) : kL n (m + 1) = kL n m ++ [V.bl (decide ((m : Int) = n))] := by
  unfold kL
  rw [List.range_succ, List.map_append]
  rfl
theorem kL_kinds (n : Int) : kindsOf n = kL n 10 := rfl
theorem kD_all {K : PySem.W.Frag} {H : Hp} (n : Int) (m : Nat) : DpAll K H (kL n m) (kD n m) := by
  unfold kL kD
  refine DpAll.of_forall (by simp) fun i v d hv hd => ?_
  rw [List.getElem?_map] at hv hd
  cases e : (List.range m)[i]? with
  | none => rw [e] at hv; cases hv
  | some j =>
    rw [e] at hv hd
    cases hv
    cases hd
    exact .bl _
theorem kD_ok (n : Int) : okd 2 (.list (kD n 10)) := ⟨by simp [kD], fun e he => by
  unfold kD at he
  obtain ⟨i, _, rfl⟩ := List.mem_map.mp he
  trivial⟩
section
variable {P : Program} {w : World} {K : PySem.W.Frag} {mg : Str → Option Value} {base : Heap}
theorem scL : FnScope ["script", "row", "number", "value", "named", "told", "due", "made", "k"] ["script"] (defScope sLaw) := ⟨rfl, rfl, rfl, by decide +kernel, rfl, by decide +kernel, by decide +kernel⟩
theorem ok_law {f L fT fP fA fR : Addr} {C FI : Nat → Addr} {fd fdT fdP fdA fdR : FuncData} (F : Fun K "law" "law" sLaw f fd) (T : TxtL P K mg C FI L fT fP fA fR)
    (FT : Fun K "_law_taken" "_law_taken" sTaken fT fdT) (bT : Binds K fdT ["row", "many"] []) (FP : Fun K "_law_pick" "_law_pick" sPick fP fdP) (bP : Binds K fdP ["row", "kinds"] [])
    (FA : Fun K "_law_alike" "_law_alike" sAlike fA fdA) (bA : Binds K fdA ["found", "due"] []) (FR : Fun K "_law_raised" "_law_raised" sRaised fR fdR) (bR : Binds K fdR ["number", "value", "named"] []) :
    FnOk P w K mg base CX0 6 f fd ["script"] (spLaw K) := by
  have GT : FnOk P w K mg base CX0 1 fT fdT ["row", "many"] (spTaken K) := ok_taken FT T.d
  have GP : FnOk P w K mg base CX0 2 fP fdP ["row", "kinds"] (spPick K) := ok_pick FP T.d FT bT
  have GA : FnOk P w K mg base CX0 4 fA fdA ["found", "due"] (spAlike K 3) := ok_alike (f := fA) T.a FA bA 3
  have GR : FnOk P w K mg base CX0 3 fR fdR ["number", "value", "named"] spRaised := ok_raised FR T.r
  refine F.ok scL (fun vs H Q E h => ?_) (fun cdv A outer s H vs Q E hr h => ?_)
  · obtain ⟨a, ns, rfl, _⟩ := h
    rfl
  · obtain ⟨a, ns, rfl, hS, k⟩ := h
    have hr1 : Room 1 _ := hr.mono (by decide)
    have hr2 : Room 2 _ := hr.mono (by decide)
    have hr3 : Room 3 _ := hr.mono (by decide)
    have hr4 : Room 4 _ := hr.mono (by decide)
    refine ⟨_, pss_cons (ps_set (i := 1) scL.nd rfl (.inl rfl) (pe_lst (pa_cons (pv 0) (pa_cons pe_int (pa_cons pe_int (pa_cons pe_int pa_nil))))))
      (pss_cons (ps_for PassesOwn.never rfl (pi_range1 (by rfl) T.a.rng (pa_cons pe_int pa_nil)) (pg_name (i := 2) scL.nd rfl (.inr rfl))
        (pss_cons (ps_set (i := 3) scL.nd rfl (.inl rfl) (pe_call GP hr2 (by rfl) T.gP T.kP bP .nil pass0 (pa_cons (pv 1) (pa_cons (pe_lst (pa_cons pe_non (pa_cons pe_int (pa_cons pe_str (pa_cons (pe_tup (pa_cons pe_int (pa_cons pe_int pa_nil))) (pa_cons pe_bl (pa_cons (pe_call GT hr1 (by rfl) T.d.gT T.d.kT bT .nil pass0 (pa_cons (pv 1) (pa_cons (pe_op op_pow pe_int pe_int) pa_nil))) pa_nil))))))) pa_nil))))
        (pss_cons (ps_set (i := 4) scL.nd rfl (.inl rfl) (pe_call GP hr2 (by rfl) T.gP T.kP bP .nil pass0 (pa_cons (pv 1) (pa_cons (pe_lst (pa_cons (pe_tup pa_nil) (pa_cons (pe_tup (pa_cons pe_str pa_nil)) pa_nil))) pa_nil))))
        (pss_cons (ps_set (i := 5) scL.nd rfl (.inl rfl) (pe_call GR hr3 (by rfl) T.gR T.kR bR .nil pass0 (pa_cons (pv 2) (pa_cons (pv 3) (pa_cons (pv 4) pa_nil)))))
        (pss_cons (ps_if (PW.pt (pw_or (pt_cmpR op_isN (pv 5) pe_non (nomark _)) (pw_or1 (pt_cmpR (op_neD hr.units) (pe_ix ix_tup (pv 5) pe_int (fun _ _ => rfl))
            (pe_lc (own := [("k", 8)]) (g := gName 8) (by rfl) scL.nd (pi_range1 (by rfl) T.a.rng (pa_cons pe_int pa_nil)) (blkOk_by (own := [("k", 8)]) (N := ["script", "row", "number", "value", "named", "told", "due", "made", "k"]) (sc := defScope sLaw) (by decide +kernel))
              (fun _ _ _ _ _ => pg_name (i := 8) scL.nd rfl (.inl rfl)) (fun _ _ _ _ _ => pts_nil) (fun _ _ _ _ _ => pe_cmpR op_eq (pv 8) (pv 2) (nomark _))) (nomark _)))))
          (pss_one (ps_ret pe_bl)) pss_nil)
        (pss_cons (ps_set (i := 6) scL.nd rfl (.inl rfl) (pv 3))
        (pss_cons (ps_if (pt_cmpR op_eq (pv 2) pe_int (nomark _)) (pss_one (ps_set (i := 6) scL.nd rfl (.inl rfl) (pe_tup (pa_cons (pv 3) (pa_cons (pv 4) pa_nil))))) pss_nil)
        (pss_one (ps_if (PW.pt (pw_and (pt_cmpR op_lt (pv 2) pe_int (nomark _)) (pw_and1 (PW.pt (pw_or (pt_cmpR (op_neD hr.units) (pe_ix ix_tup (pv 5) pe_int (fun _ _ => rfl)) (pv 6) (nomark _))
            (pw_or1 (pt_cmpR op_ne (pe_callB call_isi (by rfl) T.a.isi (by decide +kernel) (pa_cons (pe_ix ix_tup (pv 5) pe_int (fun _ _ => rfl)) (pa_cons (pe_bltn (v := .ty "bool") (by rfl) T.a.bool (by decide +kernel) rfl) pa_nil)))
              (pe_callB call_isi (by rfl) T.a.isi (by decide +kernel) (pa_cons (pv 6) (pa_cons (pe_bltn (v := .ty "bool") (by rfl) T.a.bool (by decide +kernel) rfl) pa_nil))) (nomark _))))))))
          (pss_one (ps_ret pe_bl)) pss_nil)))))))))
      (pss_cons (ps_set (i := 7) scL.nd rfl (.inl rfl) (pe_lst (pa_cons (pe_errF T.r.e0 hr1 pe_int) (pa_cons (pe_errF T.r.e1 hr1 pe_str) (pa_cons (pe_errF T.r.e2 hr1 pe_int) (pa_cons (pe_errF T.r.e3 hr1 pe_int) (pa_cons (pe_errF T.r.e4 hr1 pe_int) pa_nil)))))))
      (pss_cons (ps_set (i := 7) scL.nd rfl (.inl rfl) (pe_op op_cat (pv 7) (pe_lst (pa_cons (pe_errF T.r.e5 hr1 pe_int) (pa_cons (pe_errF T.r.e6 hr1 pe_int) (pa_cons (pe_errF T.r.e7 hr1 pe_int)
          (pa_cons (pe_refF true false T.r.e8 hr1 pe_str pe_int rfl rfl) (pa_cons (pe_refF false true T.r.e8 hr1 pe_int pe_str rfl rfl) pa_nil))))))))
      (pss_one (ps_ret (pe_call GA hr4 (by rfl) T.a.gA T.a.kA bA .nil pass0 (pa_cons (pv 7) (pa_cons (pe_lst (pa_cons pe_int (pa_cons pe_str (pa_cons pe_int (pa_cons pe_int (pa_cons pe_int (pa_cons pe_int (pa_cons pe_int (pa_cons pe_int (pa_cons pe_int (pa_cons pe_str pa_nil))))))))))) pa_nil)))))))), ?_⟩
    refine ⟨_, rfl, (by show 4 ≤ sizeLine; decide), fun r nr => ?_⟩
    have R0 : RowI K a r (upd H r (.lst [.ref a, .int 0, .int 53, .int 0])) := ⟨0, 53, 0, upd_same, by decide, by decide, ns, (same_new nr).seq hS⟩
    refine ⟨10, rfl, by decide, by decide, for_range (lo := 0) (n := 10) (fun i σ H' => (∃ x2 x3 x4 x5 x6, σ = [some (.ref a), some (.ref r), x2, x3, x4, x5, x6, none, none]) ∧ RowI K a r H') ⟨⟨_, _, _, _, _, rfl⟩, R0⟩ ?_ ?_⟩
    · rintro i σ H0 hi ⟨⟨x2, x3, x4, x5, x6, rfl⟩, R⟩
      -- value
      refine ⟨_, rfl, (by show 2 ≤ sizeLine; decide), fun t nt => ?_⟩
      have R1 := R.same (same_new (o := .tup [.int 1, .int 2]) nt)
      refine ⟨_, rfl, _, _, rfl, rfl, (by show CPow 10 9; exact ⟨by decide, by decide, by decide⟩), a, r, _, rfl, R1, by decide, by decide, fun z H1 z0 z1 b1 R2 => ?_⟩
      refine ⟨(by show 6 ≤ sizeLine; decide), fun p np => ?_⟩
      have R3 := R2.same (same_new (o := .lst [.non, .int 7, .str "x", .ref t, .bl true, .int z]) np)
      have npr : p ≠ r := fun e => by
        obtain ⟨xs, hx⟩ := R2.some
        rw [e, hx] at np
        cases np
      refine ⟨a, r, p, _, rfl, R3, upd_same, npr, (by show 0 < 6; decide), (by show 6 < 1073741824; decide), fun v H2 hv b2 R4 => ?_⟩
      have m2 : Imk (upd H0 t (.tup [.int 1, .int 2])) H2 := (b1.ktR R1).trans ((same_new np).kt.trans (b2.ktR R3))
      have ht2 : H2 t = some (.tup [.int 1, .int 2]) := m2 _ _ rfl upd_same
      obtain ⟨dv, D2, ov, fv⟩ : ∃ dv, Dp K H2 v dv ∧ okd 3 dv ∧ frozen dv = true := by
        rcases List.mem_cons.mp hv with rfl | hv
        · exact ⟨_, .non, trivial, rfl⟩
        rcases List.mem_cons.mp hv with rfl | hv
        · exact ⟨_, .int _, trivial, rfl⟩
        rcases List.mem_cons.mp hv with rfl | hv
        · exact ⟨_, .str _, (show PyData.strOk "x" = true by decide +kernel), rfl⟩
        rcases List.mem_cons.mp hv with rfl | hv
        · exact ⟨_, .tup (SqT.of ht2) (dp_all2 (.int 1) (.int 2)), okd_tup2 trivial trivial, rfl⟩
        rcases List.mem_cons.mp hv with rfl | hv
        · exact ⟨_, .bl _, trivial, rfl⟩
        rcases List.mem_cons.mp hv with rfl | hv
        · exact ⟨_, .int _, trivial, rfl⟩
        · cases hv
      -- named
      refine ⟨_, rfl, Nat.zero_le _, fun t1 nt1 => ⟨(by show 1 ≤ sizeLine; decide), fun t2 nt2 => ⟨(by show 2 ≤ sizeLine; decide), fun p2 np2 => ?_⟩⟩⟩
      have s1 := same_new (o := .tup []) nt1
      have s2 := same_new (o := .tup [.str "a"]) nt2
      have s3 := same_new (o := .lst [.ref t1, .ref t2]) np2
      have R5 := ((R4.same s1).same s2).same s3
      have npr2 : p2 ≠ r := fun e => by
        obtain ⟨xs, hx⟩ := ((R4.same s1).same s2).some
        rw [e, hx] at np2
        cases np2
      refine ⟨a, r, p2, _, rfl, R5, upd_same, npr2, (by show 0 < 2; decide), (by show 2 < 1073741824; decide), fun nm H3 hw b3 R6 => ?_⟩
      have m3 : Imk H2 H3 := s1.kt.trans (s2.kt.trans (s3.kt.trans (b3.ktR R5)))
      have D3 : Dp K H3 v dv := Dp.keep m3 _ _ fv D2
      obtain ⟨dw, W3, ow, fw⟩ : ∃ dw, Dp K H3 nm dw ∧ okd 3 dw ∧ frozen dw = true := by
        rcases List.mem_cons.mp hw with rfl | hw
        · have q : H3 t1 = some (.tup []) := (s2.kt.trans (s3.kt.trans (b3.ktR R5))) _ _ rfl upd_same
          exact ⟨.tuple [], .tup (SqT.of q) .nil, ⟨Nat.zero_le _, fun e he => nomatch he⟩, rfl⟩
        rcases List.mem_cons.mp hw with rfl | hw
        · have q : H3 t2 = some (.tup [.str "a"]) := (s3.kt.trans (b3.ktR R5)) _ _ rfl upd_same
          exact ⟨.tuple [.str "a"], .tup (SqT.of q) (.cons (.str _) .nil), ⟨by decide, fun e he => by
            rcases List.mem_cons.mp he with rfl | he
            · exact (by decide +kernel : PyData.strOk "a" = true)
            · cases he⟩, rfl⟩
        · cases hw
      -- told
      have hin : (0 : Int) + (i : Int) = (i : Int) := Int.zero_add _
      refine ⟨_, rfl, _, rfl, _, rfl, 0 + (i : Int), v, nm, rfl, by omega, by omega, fun H5 p5 q5 u e5 hp5 hq5 hf5 => ?_⟩
      rw [hin] at hq5 hf5
      have R7 := R6.same e5
      have D5 := Dp.mono e5 _ _ D3
      have W5 := Dp.mono e5 _ _ W3
      -- told is None or told[0] != [..]
      refine ⟨_, rfl, rfl, _, rfl, if_f (decide_eq_false fun z => nomatch z) ?_⟩
      refine ⟨_, rfl, p5, _, _, _, rfl, rfl, SqT.of hp5, rfl, ?_⟩
      refine ⟨10, rfl, by decide, by decide, fun D nD => ?_⟩
      refine lc_range (lo := 0) (n := 10) (fun j H' => Same H5 H' ∧ H' D = some (.lst (kL (i : Int) j))) ⟨same_new nD, upd_same⟩ (fun j H' hj ⟨e6, hD⟩ => ⟨rfl, ?_⟩) (fun H6 ⟨e6, hD⟩ => ?_)
      · refine ⟨_, rfl, _, rfl, rfl, kL (i : Int) j, hD, ?_, ?_, ?_⟩
        · unfold kL
          rw [List.length_map, List.length_range]
          exact Nat.lt_of_lt_of_le hj (by decide)
        · exact fun b o h => by
            rw [upd_ne (ne_of_none h nD)]
            exact e6 _ _ h
        · rw [kL_succ, upd_same]
          have q : decide (V.int (0 + (j : Int)) = V.int (0 + (i : Int))) = decide ((j : Int) = (i : Int)) := by
            rw [Int.zero_add, Int.zero_add]
            simp
          rw [q]
      · have okn : SeqAt.shaped (.list (kD (i : Int) 10)) = true := okd_shaped (kD_ok _) (by decide)
        refine ⟨.list (kD (i : Int) 10), .list (kD (i : Int) 10), .lst (SqL.of (e6 _ _ hq5)) (by rw [kL_kinds]; exact kD_all _ _), .lst (SqL.of hD) (kD_all _ _), okn, okn, _, rfl, if_f ?_ ?_⟩
        · rw [SeqAt.eqv_refl _ (SeqAt.canLay_of_shaped okn)]
          rfl
        have hp6 := e6 _ _ hp5
        have R8 := R7.same e6
        have D6 := Dp.mono e6 _ _ D5
        have W6 := Dp.mono e6 _ _ W5
        -- due
        refine ⟨_, rfl, ?_⟩
        have nd : ∀ b : Bool, (!decide (V.bl b = V.bl b)) = false := fun b => by simp
        refine ⟨_, rfl, rfl, _, rfl, ite2 (fun h8 => ?_) (fun h8 => ?_)⟩
        · have i8 : i = 8 := by
            have q : V.int (0 + (i : Int)) = V.int 8 := of_decide_eq_true h8
            injection q with q
            omega
          subst i8
          have hf6 : ∃ t', u = .ref t' ∧ H5 t' = some (.tup [v, nm]) := by
            unfold FieldOk at hf5
            rw [if_pos (show ((8 : Nat) : Int) = 8 from rfl)] at hf5
            exact hf5
          obtain ⟨t', rfl, ht'⟩ := hf6
          refine ⟨_, rfl, _, rfl, (by show 2 ≤ sizeLine; decide), fun t8 nt8 => ?_⟩
          have s8 := same_new (o := .tup [v, nm]) nt8
          have okp : okd 4 (.tuple [dv, dw]) := okd_tup2 ov ow
          have shp := okd_shaped okp (by decide)
          have P1 : Dp K _ (.ref t') (.tuple [dv, dw]) := .tup (SqT.of (s8 _ _ (e6 _ _ ht'))) (dp_all2 (Dp.mono s8 _ _ D6) (Dp.mono s8 _ _ W6))
          have P2 : Dp K _ (.ref t8) (.tuple [dv, dw]) := .tup (SqT.of upd_same) (dp_all2 (Dp.mono s8 _ _ D6) (Dp.mono s8 _ _ W6))
          refine ⟨_, rfl, _, _, rfl, rfl, _, rfl, if_t (by decide) ?_⟩
          refine ⟨_, rfl, p5, _, _, _, rfl, rfl, SqT.of (s8 _ _ hp6), rfl, _, rfl, _, _, P1, P2, shp, shp, _, rfl, if_f ?_ ?_⟩
          · rw [SeqAt.eqv_refl _ (SeqAt.canLay_of_shaped shp)]
            rfl
          refine ⟨_, rfl, p5, _, _, _, rfl, rfl, SqT.of (s8 _ _ hp6), rfl, _, _, _, _, false, rfl, .ty _, tyx_d P1, kit_bool _, ?_⟩
          refine ⟨_, rfl, _, _, _, _, false, rfl, .ty _, tyx_d P2, kit_bool _, rfl, _, rfl, if_f (nd _) ?_⟩
          exact ⟨⟨_, _, _, _, _, rfl⟩, R8.same s8⟩
        · have i8 : ¬ i = 8 := fun q => h8 (by subst q; decide)
          refine ⟨_, rfl, _, _, rfl, rfl, _, rfl, ite2 (fun h9 => ?_) (fun h9 => ?_)⟩
          · have i9 : i < 9 := by
              have q : (0 : Int) + (i : Int) < 9 := of_decide_eq_true h9
              omega
            have hu : u = v := by
              unfold FieldOk at hf5
              rw [if_neg (by omega), if_neg (by omega)] at hf5
              exact hf5
            subst hu
            have shv := okd_shaped ov (by decide)
            refine ⟨_, rfl, p5, _, _, _, rfl, rfl, SqT.of hp6, rfl, _, rfl, _, _, D6, D6, shv, shv, _, rfl, if_f ?_ ?_⟩
            · rw [SeqAt.eqv_refl _ (SeqAt.canLay_of_shaped shv)]
              rfl
            refine ⟨_, rfl, p5, _, _, _, rfl, rfl, SqT.of hp6, rfl, _, _, _, _, isBool dv, rfl, .ty _, tyx_d D6, kit_bool _, ?_⟩
            refine ⟨_, rfl, _, _, _, _, isBool dv, rfl, .ty _, tyx_d D6, kit_bool _, rfl, _, rfl, if_f (nd _) ?_⟩
            exact ⟨⟨_, _, _, _, _, rfl⟩, R8⟩
          · exact if_f rfl ⟨⟨_, _, _, _, _, rfl⟩, R8⟩
    · rintro σ H0 ⟨⟨x2, x3, x4, x5, x6, rfl⟩, R⟩
      refine ⟨_, rfl, _, rfl, _, rfl, _, rfl, _, rfl, (by show 5 ≤ sizeLine; decide), fun q1 n1 => ?_⟩
      refine ⟨_, rfl, _, rfl, _, rfl, _, rfl, _, _, rfl, _, _, rfl, (by show 5 ≤ sizeLine; decide), fun q2 n2 => ?_⟩
      refine ⟨q1, q2, _, _, rfl, rfl, same_new n2 _ _ upd_same, upd_same, (by show 10 ≤ sizeLine; decide), fun q3 n3 => ?_⟩
      refine ⟨_, rfl, (by show 10 ≤ sizeLine; decide), fun q4 n4 => ?_⟩
      have L : ∀ (H : Hp), DpAll K H [.int 1, .str "a", .int 4, .int 5, .int 6, .int 7, .int 8, .int 9, .int 11, .str "s"] [.int 1, .str "a", .int 4, .int 5, .int 6, .int 7, .int 8, .int 9, .int 11, .str "s"] := fun H =>
        .cons (.int _) (.cons (.str _) (.cons (.int _) (.cons (.int _) (.cons (.int _) (.cons (.int _) (.cons (.int _) (.cons (.int _) (.cons (.int _) (.cons (.str _) .nil)))))))))
      refine ⟨_, _, .list [.int 1, .str "a", .int 4, .int 5, .int 6, .int 7, .int 8, .int 9, .int 11, .str "s"], rfl, .lst (SqL.of (same_new n4 _ _ upd_same)) (L _), .lst (SqL.of upd_same) (L _), ?_, by decide, fun H' _ => k H'⟩
      refine ⟨by decide, fun e he => ?_⟩
      simp only [List.mem_cons, List.not_mem_nil, or_false] at he
      rcases he with rfl | rfl | rfl | rfl | rfl | rfl | rfl | rfl | rfl | rfl <;> first | trivial | exact (by decide +kernel : PyData.strOk "a" = true) | exact (by decide +kernel : PyData.strOk "s" = true)
end
end LW
set_option Elab.async false
set_option linter.all false
set_option maxRecDepth 100000
set_option maxHeartbeats 4000000
/-! What the written part says of the errors: the facts in the order in which k_is answers them. -/
namespace PySem
namespace LadX
open PySem.W PySem.Calls PyProof.Rows PySem.HandSPX L2
section
variable {prog : Program} {K : Frag} {h : Heap} {mg : Str → Option Value} {x f : Str} {C fI : Addr}
variable {nm q : Str} {N : Addr} {bs bm : List Value} {sn : List Str} {sub : List Value} {ab : Bool} {col : Option Bool} {dd : Option Addr} {k0 k1 k2 k3 k5 : Option Value}
variable {qual : Str} {oc : Value} {od : Option Addr} {doc pm : Value} {an : Option Addr} {cda cc : Addr} {ct : Value} {osl : Array (Option Value)} {p1 p2 p3 q1 q2 q3 q4 q5 q6 q7 r1 r2 r3 r4 s1 s2 s3 s4 : Pos} {vs : Array Value} {file : Str} {tf : Tok} {ccl cl : Value} {cdd cld : Option Addr} {ccs csl : Array (Option Value)}
theorem along_of (xL : K.lookup C = some (excClassObj nm q C N bs bm true sn sub ab col dd k0 k1 k2 k3 k5 "ValueError.__new__")) {v : Option (Option Value)} (sup : ks_superIn K C C "__init__" = v) : alongIn K "__init__" bm = v := by
  have hcl : clsIn K C = some { name := nm, bases := bs, mro := .ref C :: bm, ns := N, qualname := q, hasDict := true, slotNames := sn, subclasses := sub, abstract := ab, collection := col, hasDel := false } := by unfold clsIn; rw [xL] <;> rfl
  unfold ks_superIn at sup
  rw [hcl] at sup
  have e : (((Value.ref C :: bm).dropWhile (· != .ref C)).drop 1) = bm := drop_own C bm
  have s2 : alongIn K "__init__" (((Value.ref C :: bm).dropWhile (· != .ref C)).drop 1) = v := sup
  rw [e] at s2
  exact s2
theorem err_mk (X : K.In h) (G : h.Ns mainGlobals mg) (nice : Nice f)
    (aC : nsIn K mainGlobals x = some (some (.ref C))) (aS : nsIn K mainGlobals "super" = some none)
    (xL : K.lookup C = some (excClassObj nm q C N bs bm true sn sub ab col dd k0 k1 k2 k3 k5 "ValueError.__new__")) (sup : ks_superIn K C C "__init__" = some (some (.builtin "ValueError.__init__")))
    (opq : nsIn K cStatics "thirdparty.any" = some none) (sa : findIn K (.ref C) "__setattr__" = some (some (.builtin "object.__setattr__"))) (ga : findIn K (.ref C) "__getattribute__" = some (some (.builtin "BaseException.__getattribute__")))
    (gg : findIn K (.ref C) "__getattr__" = some none) (noN : findIn K (.ref C) f = some none) (iC : findIn K (.ref C) "__init__" = some (some (.ref fI))) (tC : typeIn K (.ref fI) = some (.type "function")) (kC : keepIn K (.ref C) = true)
    (exC : subIn K (.ref C) (.type "BaseException") = some true) (veC : subIn K (.ref C) (.type "ValueError") = some true) (seC : mroIn K C (.ref C) = some true) (tyC : typeIn K (.ref C) = some (.type "type")) (hdC : hasDictIn K C = true)
    (lf : K.lookup fI = some ⟨oc, od, .func (ksFn "__init__" qual (iA1 f p1 p2) (iB1 f q1 q2 q3 q4 q5 q6 r1 r2 r3 r4) (iS1 f) .none .none doc pm an (.ref cda) ct cc), osl⟩)
    (cd : codeIn K (.ref cda) qual = true) (lc : K.lookup cda = some ⟨ccl, cdd, .fields vs, ccs⟩) (lcc : K.lookup cc = some ⟨cl, cld, .cell (some (.ref C)), csl⟩)
    (hbm : refsVE bm = true) (ln : (q3.endLine == q5.line) = true) (hv : vs[2]? = some (.str file tf)) (hf : ((prog.main.file : Str) == file) = true) (top : (prog.main.scope.names.lookup ("super" : Str)).isSome = false) : ErrTxt prog K mg x f C fI where
  nice := nice
  gC := mg_of X G aC
  gS := mg_none_of X G aS
  cls := ⟨nm, q, N, bs, bm, sn, sub, ab, col, dd, k0, k1, k2, k3, k5, xL, hbm, along_of xL sup⟩
  opq := opq
  sa := sa
  ga := ga
  gg := gg
  noN := noN
  iC := iC
  tC := tC
  kC := kC
  exC := exC
  veC := veC
  seC := seC
  tyC := tyC
  hdC := hdC
  top := top
  fn := ⟨qual, oc, od, doc, pm, an, cda, cc, ct, osl, p1, p2, q1, q2, q3, q4, q5, q6, r1, r2, r3, r4, vs, file, tf, ccl, cl, cdd, cld, ccs, csl, lf, ln, cd, lc, hv, hf, lcc⟩
theorem ref_mk (X : K.In h) (G : h.Ns mainGlobals mg)
    (aC : nsIn K mainGlobals x = some (some (.ref C))) (aS : nsIn K mainGlobals "super" = some none)
    (xL : K.lookup C = some (excClassObj nm q C N bs bm true sn sub ab col dd k0 k1 k2 k3 k5 "ValueError.__new__")) (sup : ks_superIn K C C "__init__" = some (some (.builtin "ValueError.__init__")))
    (opq : nsIn K cStatics "thirdparty.any" = some none) (sa : findIn K (.ref C) "__setattr__" = some (some (.builtin "object.__setattr__"))) (ga : findIn K (.ref C) "__getattribute__" = some (some (.builtin "BaseException.__getattribute__")))
    (gg : findIn K (.ref C) "__getattr__" = some none) (no1 : findIn K (.ref C) "reason" = some none) (no2 : findIn K (.ref C) "names" = some none) (iC : findIn K (.ref C) "__init__" = some (some (.ref fI))) (tC : typeIn K (.ref fI) = some (.type "function")) (kC : keepIn K (.ref C) = true)
    (exC : subIn K (.ref C) (.type "BaseException") = some true) (veC : subIn K (.ref C) (.type "ValueError") = some true) (seC : mroIn K C (.ref C) = some true) (tyC : typeIn K (.ref C) = some (.type "type")) (hdC : hasDictIn K C = true)
    (lf : K.lookup fI = some ⟨oc, od, .func (ksFn "__init__" qual (jA p1 p2 p3) (jB q1 q2 q3 q4 q5 q6 q7 r1 r2 r3 r4 s1 s2 s3 s4) jS .none .none doc pm an (.ref cda) ct cc), osl⟩)
    (cd : codeIn K (.ref cda) qual = true) (lc : K.lookup cda = some ⟨ccl, cdd, .fields vs, ccs⟩) (lcc : K.lookup cc = some ⟨cl, cld, .cell (some (.ref C)), csl⟩)
    (hbm : refsVE bm = true) (ln : (q3.endLine == q6.line) = true) (hv : vs[2]? = some (.str file tf)) (hf : ((prog.main.file : Str) == file) = true) (top : (prog.main.scope.names.lookup ("super" : Str)).isSome = false) : RefTxt prog K mg x C fI where
  gC := mg_of X G aC
  gS := mg_none_of X G aS
  cls := ⟨nm, q, N, bs, bm, sn, sub, ab, col, dd, k0, k1, k2, k3, k5, xL, hbm, along_of xL sup⟩
  opq := opq
  sa := sa
  ga := ga
  gg := gg
  no1 := no1
  no2 := no2
  iC := iC
  tC := tC
  kC := kC
  exC := exC
  veC := veC
  seC := seC
  tyC := tyC
  hdC := hdC
  top := top
  fn := ⟨qual, oc, od, doc, pm, an, cda, cc, ct, osl, p1, p2, p3, q1, q2, q3, q4, q5, q6, q7, r1, r2, r3, r4, s1, s2, s3, s4, vs, file, tf, ccl, cl, cdd, cld, ccs, csl, lf, ln, cd, lc, hv, hf, lcc⟩
theorem none_mk (X : K.In h) (G : h.Ns mainGlobals mg) (aC : nsIn K mainGlobals x = some (some (.ref C))) (xL : K.lookup C = some (excClassObj nm q C N bs bm true sn sub ab col dd k0 k1 k2 k3 k5 "ValueError.__new__"))
    (iC : findIn K (.ref C) "__init__" = some (some (.builtin "ValueError.__init__"))) (kC : keepIn K (.ref C) = true) (exC : subIn K (.ref C) (.type "BaseException") = some true) (tyC : typeIn K (.ref C) = some (.type "type")) (hbm : refsVE bm = true) : NoneTxt K mg x C :=
  ⟨mg_of X G aC, ⟨nm, q, N, bs, bm, sn, sub, ab, col, dd, k0, k1, k2, k3, k5, xL, hbm⟩, iC, kC, exC, tyC⟩
/-- a class, as isinstance asks of its instances -/
theorem excC_mk (L : ErrLook K C) (ha : findIn K (.ref C) "__class__" = some (some (.builtin "object.__class__"))) (hn : specialIn K (.builtin "object.__class__") "__get__" = some (some (.builtin "getset_descriptor.__get__")))
    (ht : takesIn K (.builtin "object.__class__") = some true) (hm : mroIn K C (.type "object") = some true) : L2.ExcC K C := ⟨L.ga, L.gg, L.exC, L.hdC, ha, hn, ht, hm⟩
end
end LadX
end PySem
set_option Elab.async false
set_option linter.all false
set_option maxRecDepth 100000
set_option maxHeartbeats 4000000
/-! k09: what is asked of the written part. Printed by gen_fin.py. -/
namespace LW
open PySem PySem.W L2
def ofL (l : List Addr) (n : Nat) : Addr := l.getD n 0
def okR (K : Frag) (L : Addr) (C : Nat → Addr) : Bool := (List.range 10).all fun j =>
  PySem.W.exmOne K (.ref (C j)) (.ref L) == some true && PySem.W.kitOne K (.ref (C j)) (.type "ValueError") == some true && PySem.W.kitOne K (.ref (C j)) (.type "LookupError") == some false && PySem.W.kitOne K (.ref (C j)) (.type "RuntimeError") == some false &&
  findIn K (.ref (C j)) "__class__" == some (some (.builtin "object.__class__")) && mroIn K (C j) (.type "object") == some true && findIn K (.ref (C j)) "__getattribute__" == some (some (.builtin "BaseException.__getattribute__")) && findIn K (.ref (C j)) "__getattr__" == some none &&
  subIn K (.ref (C j)) (.type "BaseException") == some true && hasDictIn K (C j) && (List.range 10).all fun i => PySem.W.kitOne K (.ref (C j)) (.ref (C i)) == some (decide ((i : Int) = (j : Int)))
theorem law_mk {prog : Program} {w : World} {K : Frag} {h : Heap} {mg : Str → Option Value} {fa L fL fT fP fA fR C0 C1 C2 C3 C4 C5 C6 C7 C8 C9 F0 F1 F2 F3 F4 F5 F6 F7 F8 : Addr} {fdL fdT fdP fdA fdR : FuncData} (X : K.In h) (G : h.Ns mainGlobals mg) (hfa : mg "law" = some (.ref fa))
    (e0 : PySem.LadX.ErrTxt prog K mg "BadNumber" "value" C0 F0)
    (e1 : PySem.LadX.ErrTxt prog K mg "BadName" "value" C1 F1)
    (e2 : PySem.LadX.ErrTxt prog K mg "BadItem" "index" C2 F2)
    (e3 : PySem.LadX.ErrTxt prog K mg "BadEvent" "value" C3 F3)
    (e4 : PySem.LadX.ErrTxt prog K mg "BadNote" "line" C4 F4)
    (e5 : PySem.LadX.ErrTxt prog K mg "TooMany" "limit" C5 F5)
    (e6 : PySem.LadX.ErrTxt prog K mg "Unknown" "value" C6 F6)
    (e7 : PySem.LadX.ErrTxt prog K mg "Taken" "value" C7 F7)
    (e8 : PySem.LadX.RefTxt prog K mg "Refused" C8 F8) (e9 : NoneTxt K mg "NothingToUndo" C9)
    (aL : nsIn K mainGlobals "LadderError" = some (some (.ref L)))
    (hn : specialIn K (.builtin "object.__class__") "__get__" = some (some (.builtin "getset_descriptor.__get__"))) (ht : takesIn K (.builtin "object.__class__") = some true)
    (z0 : nsIn K mainGlobals "isinstance" = some none)
    (z1 : nsIn K mainGlobals "ValueError" = some none)
    (z2 : nsIn K mainGlobals "LookupError" = some none)
    (z3 : nsIn K mainGlobals "RuntimeError" = some none)
    (z4 : nsIn K mainGlobals "int" = some none)
    (z5 : nsIn K mainGlobals "len" = some none)
    (z6 : nsIn K mainGlobals "tuple" = some none)
    (z7 : nsIn K mainGlobals "list" = some none)
    (z8 : nsIn K mainGlobals "range" = some none)
    (z9 : nsIn K mainGlobals "str" = some none)
    (z10 : nsIn K mainGlobals "bool" = some none)
    (aT : nsIn K mainGlobals "_law_taken" = some (some (.ref fT))) (FT : Fun K "_law_taken" "_law_taken" sTaken fT fdT)
    (aP : nsIn K mainGlobals "_law_pick" = some (some (.ref fP))) (FP : Fun K "_law_pick" "_law_pick" sPick fP fdP)
    (aA : nsIn K mainGlobals "_law_alike" = some (some (.ref fA))) (FA : Fun K "_law_alike" "_law_alike" sAlike fA fdA)
    (aR : nsIn K mainGlobals "_law_raised" = some (some (.ref fR))) (FR : Fun K "_law_raised" "_law_raised" sRaised fR fdR)
    (aLaw : nsIn K mainGlobals "law" = some (some (.ref fL))) (FL : Fun K "law" "law" sLaw fL fdL)
    (ok : okR K L (ofL [C0, C1, C2, C3, C4, C5, C6, C7, C8, C9]) = true) :
    ∃ fd : FuncData, (∀ (s : Shared) (v : Value), BindsTo s fd ⟨[v], []⟩ [("script", v)]) ∧ ∀ base : Heap, K.In base → base.Ns mainGlobals mg → FnOk prog w K mg base CX0 6 fa fd ["script"] (spLaw K) := by
  have e := hfa.symm.trans (mg_of X G aLaw)
  cases e
  have all : ∀ j, j < 10 → _ := fun j hj => List.all_eq_true.mp ok j (List.mem_range.mpr hj)
  simp only [Bool.and_eq_true, beq_iff_eq] at all
  have R : TxtR prog K mg (ofL [C0, C1, C2, C3, C4, C5, C6, C7, C8, C9]) (ofL [F0, F1, F2, F3, F4, F5, F6, F7, F8]) L :=
    { e0 := e0, e1 := e1, e2 := e2, e3 := e3, e4 := e4, e5 := e5, e6 := e6, e7 := e7, e8 := e8, e9 := e9, lad := mg_of X G aL,
      te := fun j hj => (all j hj).1.1.1.1.1.1.1.1.1.1
      kv := fun j hj => (all j hj).1.1.1.1.1.1.1.1.1.2
      kl := fun j hj => (all j hj).1.1.1.1.1.1.1.1.2
      kr := fun j hj => (all j hj).1.1.1.1.1.1.1.2
      exc := fun j hj => ⟨(all j hj).1.1.1.1.2, (all j hj).1.1.1.2, (all j hj).1.1.2, (all j hj).1.2, (all j hj).1.1.1.1.1.1.2, hn, ht, (all j hj).1.1.1.1.1.2⟩
      kit := fun i j hi hj => by
        have q := List.all_eq_true.mp (all i hi).2 j (List.mem_range.mpr hj)
        simpa using q
      isi := mg_none_of X G z0, ve := mg_none_of X G z1, le := mg_none_of X G z2, re := mg_none_of X G z3 }
  have bT := FT.binds (ps := ["row", "many"]) fun _ _ _ _ _ _ us hl => match us, hl with | [_, _], _ => rfl
  have bP := FP.binds (ps := ["row", "kinds"]) fun _ _ _ _ _ _ us hl => match us, hl with | [_, _], _ => rfl
  have bA := FA.binds (ps := ["found", "due"]) fun _ _ _ _ _ _ us hl => match us, hl with | [_, _], _ => rfl
  have bR := FR.binds (ps := ["number", "value", "named"]) fun _ _ _ _ _ _ us hl => match us, hl with | [_, _, _], _ => rfl
  have T : TxtL prog K mg (ofL [C0, C1, C2, C3, C4, C5, C6, C7, C8, C9]) (ofL [F0, F1, F2, F3, F4, F5, F6, F7, F8]) L fT fP fA fR :=
    { d := ⟨mg_none_of X G z4, mg_none_of X G z5, mg_of X G aT, FT.kp⟩
      a := ⟨mg_none_of X G z0, mg_none_of X G z6, mg_none_of X G z7, mg_none_of X G z5, mg_none_of X G z8, mg_none_of X G z9, mg_none_of X G z4, mg_none_of X G z10, mg_of X G aA, FA.kp⟩
      r := R, gP := mg_of X G aP, kP := FP.kp, gR := mg_of X G aR, kR := FR.kp }
  refine ⟨fdL, fun s v => ?_, fun base _ _ => ok_law FL T FT bT FP bP FA bA FR bR⟩
  obtain ⟨oc, od, kV, doc, pm, an, cdv, ct, osl, rfl, lk, hcd⟩ := FL.ex
  exact .of_eq rfl
end LW
set_option Elab.async false
set_option linter.all false
/-! k09: the end. Printed by gen_end.py. -/
open PySem PySem.W PyProof.Rows L2 LW in
set_option maxRecDepth 100000 in
set_option maxHeartbeats 0 in
theorem PySem.Challenge.cw_scanladder_k09_errors_holds : PySem.Challenge.rw_scanladder_k09_errors.Holds := by
  w_on; o_law; k_head; (case hw => w_witness2)
  k_fill
  refine L2.walk_ofK (l := PySem.Challenge.rw_scanladder_k09_errors) (n := 63) (k := 6) (CX := CX0) (sp := spLaw) (x := "script") rfl (by decide) rfl ⟨rfl, by decide, by decide⟩ (fun w h Y => PySem.W.kIn_of Y) ?F (fun K H a ns _ _ hS => ⟨a, ns, rfl, hS, fun _ => rfl⟩) (fun _ _ _ _ z => z)
  case F =>
    intro w mg fa h KX G hmg
    refine law_mk (prog := PySem.Challenge.rw_scanladder_k09_errors.prog) KX G hmg
      (PySem.LadX.err_mk KX G PySem.LadX.nice_value (by k_is) (by k_is) (by k_is) (by ks_is) (by k_is) (by k_is) (by k_is) (by k_is) (by k_is) (by k_is) (by k_is) (by k_is) (by k_is) (by k_is) (by k_is) (by k_is) (by k_is) (by k_is) (by k_is) (by k_is) (by k_is) (by decide +kernel) (by decide +kernel) rfl (by decide +kernel) (by decide +kernel))
      (PySem.LadX.err_mk KX G PySem.LadX.nice_value (by k_is) (by k_is) (by k_is) (by ks_is) (by k_is) (by k_is) (by k_is) (by k_is) (by k_is) (by k_is) (by k_is) (by k_is) (by k_is) (by k_is) (by k_is) (by k_is) (by k_is) (by k_is) (by k_is) (by k_is) (by k_is) (by decide +kernel) (by decide +kernel) rfl (by decide +kernel) (by decide +kernel))
      (PySem.LadX.err_mk KX G PySem.LadX.nice_index (by k_is) (by k_is) (by k_is) (by ks_is) (by k_is) (by k_is) (by k_is) (by k_is) (by k_is) (by k_is) (by k_is) (by k_is) (by k_is) (by k_is) (by k_is) (by k_is) (by k_is) (by k_is) (by k_is) (by k_is) (by k_is) (by decide +kernel) (by decide +kernel) rfl (by decide +kernel) (by decide +kernel))
      (PySem.LadX.err_mk KX G PySem.LadX.nice_value (by k_is) (by k_is) (by k_is) (by ks_is) (by k_is) (by k_is) (by k_is) (by k_is) (by k_is) (by k_is) (by k_is) (by k_is) (by k_is) (by k_is) (by k_is) (by k_is) (by k_is) (by k_is) (by k_is) (by k_is) (by k_is) (by decide +kernel) (by decide +kernel) rfl (by decide +kernel) (by decide +kernel))
      (PySem.LadX.err_mk KX G PySem.LadX.nice_line (by k_is) (by k_is) (by k_is) (by ks_is) (by k_is) (by k_is) (by k_is) (by k_is) (by k_is) (by k_is) (by k_is) (by k_is) (by k_is) (by k_is) (by k_is) (by k_is) (by k_is) (by k_is) (by k_is) (by k_is) (by k_is) (by decide +kernel) (by decide +kernel) rfl (by decide +kernel) (by decide +kernel))
      (PySem.LadX.err_mk KX G PySem.LadX.nice_limit (by k_is) (by k_is) (by k_is) (by ks_is) (by k_is) (by k_is) (by k_is) (by k_is) (by k_is) (by k_is) (by k_is) (by k_is) (by k_is) (by k_is) (by k_is) (by k_is) (by k_is) (by k_is) (by k_is) (by k_is) (by k_is) (by decide +kernel) (by decide +kernel) rfl (by decide +kernel) (by decide +kernel))
      (PySem.LadX.err_mk KX G PySem.LadX.nice_value (by k_is) (by k_is) (by k_is) (by ks_is) (by k_is) (by k_is) (by k_is) (by k_is) (by k_is) (by k_is) (by k_is) (by k_is) (by k_is) (by k_is) (by k_is) (by k_is) (by k_is) (by k_is) (by k_is) (by k_is) (by k_is) (by decide +kernel) (by decide +kernel) rfl (by decide +kernel) (by decide +kernel))
      (PySem.LadX.err_mk KX G PySem.LadX.nice_value (by k_is) (by k_is) (by k_is) (by ks_is) (by k_is) (by k_is) (by k_is) (by k_is) (by k_is) (by k_is) (by k_is) (by k_is) (by k_is) (by k_is) (by k_is) (by k_is) (by k_is) (by k_is) (by k_is) (by k_is) (by k_is) (by decide +kernel) (by decide +kernel) rfl (by decide +kernel) (by decide +kernel))
      (PySem.LadX.ref_mk KX G (by k_is) (by k_is) (by k_is) (by ks_is) (by k_is) (by k_is) (by k_is) (by k_is) (by k_is) (by k_is) (by k_is) (by k_is) (by k_is) (by k_is) (by k_is) (by k_is) (by k_is) (by k_is) (by k_is) (by k_is) (by k_is) (by k_is) (by decide +kernel) (by decide +kernel) rfl (by decide +kernel) (by decide +kernel))
      (PySem.LadX.none_mk KX G (by k_is) (by k_is) (by k_is) (by k_is) (by k_is) (by k_is) (by decide +kernel))
      (by k_is) (by k_is) (by k_is)
      (by k_is) (by k_is) (by k_is) (by k_is) (by k_is) (by k_is) (by k_is) (by k_is) (by k_is) (by k_is) (by k_is)
      (by k_is) (fun_mk (by k_is) (by k_is) (by k_is)) (by k_is) (fun_mk (by k_is) (by k_is) (by k_is)) (by k_is) (fun_mk (by k_is) (by k_is) (by k_is)) (by k_is) (fun_mk (by k_is) (by k_is) (by k_is)) (by k_is) (fun_mk (by k_is) (by k_is) (by k_is))
      (by kernel_rfl)
