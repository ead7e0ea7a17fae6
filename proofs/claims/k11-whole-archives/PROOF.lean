import PyProof.Rows.All
import Wide.All
import OpenK.AllK
import Wide.FinOn
import PyProof.EqAt
import PyProof.EqKinds
import PyProof.TupleCall
import KE.KExcSuper
import HandS.ForMost
import HandS.Exc
import HandS.ExcInit
import KE.KExcIs
import HandS.ExcIs
import HandS.TryOnly
import HandS.IsInst
import HandS.Deep
import HandS.OwnEq
import PyProof.InstEq
import PyProof.ReprReads
import HandS.Iter
import PyProof.EnumMake
import PyProof.Draws
import HandS.Flow
import HandS.Codes
import HandS.FStr
import HandS.Replace
import HandS.StrMore
import HandS.WordsExc
import HandS.RaiseMore
import HandS.Sort
import HandS.Comp
import KE.RegKSuper
import KE.KIntText
import KE.IntTextLaws
import HandS.Text
import HandS.Walk
import HandS.TupAny
import HandS.Defaults
import HandS.Ends
import PyProof.CallFns
import PyProof.ReprRoads
import HandS.ExcOwn
import PySem.Challenge.RW_scanladder_k11_whole_archives
set_option Elab.async false
set_option linter.all false
set_option maxRecDepth 100000
set_option maxHeartbeats 4000000
/-! The errors of the package: class X(LadderError) whose __init__ says super().__init__(f, ..); self.f = f. -/
namespace PySem
namespace LadX
open PySem.W PySem.Calls PyProof.Rows PySem.HandSPX
def arg0 (x : Str) (p : Pos) : Arg := { arg := x, annotation := none, pos := p }
def iA1 (f : Str) (p1 p2 : Pos) : Arguments := { posonlyargs := [], args := [{ arg := "self", annotation := none, pos := p1 }, { arg := f, annotation := none, pos := p2 }], vararg := none, kwonlyargs := [], kw_defaults := [], kwarg := none, defaults := [] }
def iB1 (f : Str) (q1 q2 q3 q4 q5 q6 r1 r2 r3 r4 : Pos) : List Stmt := [.Expr (.Call (.Attribute (.Call (.Name "super" q1) [] [] q2) "__init__" q3) [.Name f q4] [] q5) q6, .Assign [.Attribute (.Name "self" r1) f r2] (.Name f r3) r4]
def iS1 (f : Str) : Scope := { kind := .function, names := [(PySem.Str.ofString "self", .local), (f, .local), (PySem.Str.ofString "__class__", .free), (PySem.Str.ofString "super", .globalImplicit)], isGenerator := false, isCoroutine := false, more := [] }
structure Nice (f : Str) : Prop where
  sup : (iS1 f).names.lookup ("super" : Str) = some .globalImplicit
  cls : (iS1 f).names.lookup ("__class__" : Str) = some .free
  own : (iS1 f).names.lookup f = some .local
  dbg : (f == ("__debug__" : Str)) = false
  nse : f ≠ ("self" : Str)
  cel : ∀ x ∈ (iS1 f).names, x.2 ≠ .cell
  bind : ∀ (qual : Str) (p1 p2 : Pos) (body : List Stmt) (dV kV doc pm : Value) (an : Option Addr) (cdv ct : Value) (cc : Addr) (e v : Value), bindArgs (ksFn "__init__" qual (iA1 f p1 p2) body (iS1 f) .none .none doc pm an cdv ct cc) ⟨[e, v], []⟩ = pure [(("self" : Str), e), (f, v)]
  bindK : ∀ (qual : Str) (p1 p2 : Pos) (body : List Stmt) (dV kV doc pm : Value) (an : Option Addr) (cdv ct : Value) (cc : Addr) (e v : Value), bindArgs (ksFn "__init__" qual (iA1 f p1 p2) body (iS1 f) .none .none doc pm an cdv ct cc) ⟨[e], [(f, v)]⟩ = pure [(("self" : Str), e), (f, v)]
theorem nice_value : Nice "value" := ⟨rfl, rfl, rfl, rfl, by decide +kernel, by decide +kernel, fun _ _ _ _ _ _ _ _ _ _ _ _ _ _ => rfl, fun _ _ _ _ _ _ _ _ _ _ _ _ _ _ => rfl⟩
theorem nice_index : Nice "index" := ⟨rfl, rfl, rfl, rfl, by decide +kernel, by decide +kernel, fun _ _ _ _ _ _ _ _ _ _ _ _ _ _ => rfl, fun _ _ _ _ _ _ _ _ _ _ _ _ _ _ => rfl⟩
theorem nice_line : Nice "line" := ⟨rfl, rfl, rfl, rfl, by decide +kernel, by decide +kernel, fun _ _ _ _ _ _ _ _ _ _ _ _ _ _ => rfl, fun _ _ _ _ _ _ _ _ _ _ _ _ _ _ => rfl⟩
theorem nice_limit : Nice "limit" := ⟨rfl, rfl, rfl, rfl, by decide +kernel, by decide +kernel, fun _ _ _ _ _ _ _ _ _ _ _ _ _ _ => rfl, fun _ _ _ _ _ _ _ _ _ _ _ _ _ _ => rfl⟩
/-- what the written part says of the class at C named x, whose __init__ stands at fI and has the field f -/
structure ErrTxt (prog : Program) (K : Frag) (mg : Str → Option Value) (x f : Str) (C fI : Addr) : Prop where
  nice : Nice f
  gC : mg x = some (.ref C)
  gS : mg "super" = none
  cls : ∃ nm q N bs bm sn sub ab col dd k0 k1 k2 k3 k5, K.lookup C = some (excClassObj nm q C N bs bm true sn sub ab col dd k0 k1 k2 k3 k5 "ValueError.__new__") ∧ refsVE bm = true ∧ alongIn K "__init__" bm = some (some (.builtin "ValueError.__init__"))
  opq : nsIn K cStatics "thirdparty.any" = some none
  sa : findIn K (.ref C) "__setattr__" = some (some (.builtin "object.__setattr__"))
  ga : findIn K (.ref C) "__getattribute__" = some (some (.builtin "BaseException.__getattribute__"))
  gg : findIn K (.ref C) "__getattr__" = some none
  noN : findIn K (.ref C) f = some none
  iC : findIn K (.ref C) "__init__" = some (some (.ref fI))
  tC : typeIn K (.ref fI) = some (.type "function")
  kC : keepIn K (.ref C) = true
  exC : subIn K (.ref C) (.type "BaseException") = some true
  veC : subIn K (.ref C) (.type "ValueError") = some true
  seC : mroIn K C (.ref C) = some true
  tyC : typeIn K (.ref C) = some (.type "type")
  hdC : hasDictIn K C = true
  top : (prog.main.scope.names.lookup ("super" : Str)).isSome = false
  fn : ∃ (qual : Str) (oc : Value) (od : Option Addr) (doc pm : Value) (an : Option Addr) (cda cc : Addr) (ct : Value) (osl : Array (Option Value)) (p1 p2 q1 q2 q3 q4 q5 q6 r1 r2 r3 r4 : Pos) (vs : Array Value) (file : Str) (tf : Tok) (ccl cl : Value) (cdd cld : Option Addr) (ccs csl : Array (Option Value)),
    K.lookup fI = some ⟨oc, od, .func (ksFn "__init__" qual (iA1 f p1 p2) (iB1 f q1 q2 q3 q4 q5 q6 r1 r2 r3 r4) (iS1 f) .none .none doc pm an (.ref cda) ct cc), osl⟩ ∧ (q3.endLine == q5.line) = true ∧ codeIn K (.ref cda) qual = true ∧
    K.lookup cda = some ⟨ccl, cdd, .fields vs, ccs⟩ ∧ vs[2]? = some (.str file tf) ∧ ((prog.main.file : Str) == file) = true ∧ K.lookup cc = some ⟨cl, cld, .cell (some (.ref C)), csl⟩

section
variable {prog : Program} {w : World} {A : Around} {E : Value → Shared → Prop} {R : Result → Shared → Prop} {s : Shared} {K : Frag} {mg mb : Str → Option Value} {x f : Str} {C fI : Addr}
section
variable {h : Heap} {g : Array GenState} {d : Drawn} {t : Nat} {os : OsState} {nm q : Str} {N : Addr} {bs bm : List Value} {hdct : Bool} {sn : List Str} {sub : List Value} {ab : Bool} {col : Option Bool} {dd : Option Addr} {k0 k1 k2 k3 k5 : Option Value}
theorem call_mw {u e t0 : Addr} {rest : List Value} {Q : Value → Shared → Prop}
    (hC : h.get? C = some (excClassObj nm q C N bs bm hdct sn sub ab col dd k0 k1 k2 k3 k5 "ValueError.__new__")) (he : h.get? e = some (excO C t0)) (hu : h.get? u = some (kxs_mw "ValueError.__init__" e)) (hrest : rest.length ≤ sizeLine)
    (hq : ∀ h' t1, (∀ b o, b ≠ e → h.get? b = some o → h'.get? b = some o) → h'.get? e = some (excO C t1) → Q .none ⟨h', g, d, t, os⟩) :
    wpAny (model prog w) A (call (.ref u) rest) Q E ⟨h, g, d, t, os⟩ := by
  refine wpAny_call (codeAny_of_tree ?_)
  show wpAny _ A.in1 (callAny (.ref u) ⟨rest, []⟩) _ _ _
  simp only [callAny]
  refine wpAny_bind (wpAny_load hu ?_)
  simp only [kxs_mw, show (Value.type "method-wrapper" == Value.type "method" || Value.type "method-wrapper" == Value.type "builtin_function_or_method" || Value.type "method-wrapper" == Value.type "method-wrapper") = true by decide, if_true]
  refine KFB.if_so (by decide) ?_
  refine wpAny_bind (check_bound_init F.excBase_ValueError.toExcCallFacts hC he rfl ?_)
  refine wpAny_bind (wpAny_pure (wpAny_pure ?_))
  refine ⟨plainId_quiet F.excBase_ValueError.init.plain _, codeAny_builtin F.excBase_ValueError.initEntry ?_⟩
  exact exc_init_tree (cls := .ref C) (t0 := t0) (dv := none) (c2 := .none) (c3 := .none) (b4 := .bool false) he hrest fun h' k e' t' => hq h' _ k e'
end
/-- super() in the frame at L -/
theorem super_obj {qual : Str} {sc : Scope} {L cda cc e t0 : Addr} {body : List Stmt} {m : Str → Option Value} {p0 p1 : Pos} {whole : Sem Value} {fd : FuncData} {ar : Arg} {vs : Array Value} {file : Str} {tf : Tok} {oc ccl cl : Value} {od cdd cld : Option Addr} {osl ccs csl : Array (Option Value)} {cdD : ClassData} {Q : Value → Shared → Prop}
    (X : K.In s.heap) (hG : s.heap.Ns mainGlobals mg) (hB : s.heap.Ns builtinsNs mb) (hgS : mg "super" = none) (hbS : mb "super" = some (.type "super")) (hn : s.heap.Ns L m)
    (hf : K.lookup fI = some ⟨oc, od, .func fd, osl⟩) (hp : (fd.params.posonlyargs ++ fd.params.args).head? = some ar) (hv : m ar.arg = some (.ref e)) (hx : s.heap.get? e = some (excO C t0))
    (hcode : K.lookup cda = some ⟨ccl, cdd, .fields vs, ccs⟩) (hvs : vs[2]? = some (.str file tf)) (hfile : ((prog.main.file : Str) == file) = true)
    (hcell : K.lookup cc = some ⟨cl, cld, .cell (some (.ref C)), csl⟩) (hD : clsIn K C = some cdD) (hsub : mroIn K C (.ref C) = some true)
    (hks : sc.names.lookup ("super" : Str) = some .globalImplicit) (hkc : sc.names.lookup ("__class__" : Str) = some .free) (hka : sc.names.lookup ar.arg = some .local) (hk : sc.kind = .function)
    (htop : (prog.main.scope.names.lookup ("super" : Str)).isSome = false)
    (h : ∀ h', h'.get? s.heap.objs.size = some (ks_superObj C e C) → (∀ y o, s.heap.get? y = some o → h'.get? y = some o) → Q (.ref s.heap.objs.size) { s with heap := h' }) :
    _root_.PySem.wpAt (model prog w) A (.func body (ksEnv qual sc L fI (.ref cda) cc)) (attributeBase (.Call (.Name "super" p0) [] [] p1) "__init__" (ksEnv qual sc L fI (.ref cda) cc) whole) Q E s := by
  obtain ⟨hh, g, d, t, os⟩ := s
  obtain ⟨oD, hD1, hD2⟩ : ∃ oD, hh.get? C = some oD ∧ oD.data = .cls cdD := by
    unfold clsIn at hD
    split at hD
    · rename_i c d cd' sl ho
      cases hD
      exact ⟨_, X _ _ ho, rfl⟩
    · cases hD
  refine ks_wpAt_super_base (env := ksEnv qual sc L fI (.ref cda) cc) hks hkc (by decide) rfl (X _ _ hf) rfl hp rfl (X _ _ hcode) rfl hvs hfile htop ?_
  refine ks_loadName_global hk hks (loadGlobal_builtin (env := ksEnv qual sc L fI (.ref cda) cc) hG hgS hB hbS ⟨rfl, ?_⟩)
  refine wpAny_loadName_free hk hkc rfl ⟨_, X _ _ hcell, rfl⟩ ?_
  refine wpAny_loadName_local hk hka hn hv ?_
  refine ks_wpAny_isType_cls hD1 hD2 ⟨rfl, ?_⟩
  exact ks_wpAny_call_super hD1 hD2 hx rfl (fun c e => by cases e) (looks_mroIn X hsub) h

/-- what __init__ leaves of a fresh exception at x -/
structure InitEnd (f : Str) (h h' : Heap) (x C dx t1 : Addr) (v : Value) : Prop where
  keep : ∀ b o, b ≠ x → h.get? b = some o → h'.get? b = some o
  obj : h'.get? x = some { cls := .ref C, dict := some dx, data := .fields #[.ref t1, .none, .none, .none, .bool false, .none] }
  dbig : h.objs.size ≤ dx
  dne : dx ≠ x
  ns : h'.Ns1 dx (fun y => if y = f then some v else none)
structure OwnMade (f : Str) (h h' : Heap) (e C d : Addr) (v : Value) : Prop where
  keep : ∀ b o, h.get? b = some o → h'.get? b = some o
  new : h.objs.size ≤ e
  obj : ∃ oe vs, h'.get? e = some oe ∧ oe.cls = .ref C ∧ oe.dict = some d ∧ oe.data = .fields vs ∧ vs[1]? = some .none
  dbig : h.objs.size ≤ d
  dne : d ≠ e
  ns : h'.Ns1 d (fun y => if y = f then some v else none)
theorem kept_but {h h' : Heap} {x : Addr} (X : K.In h) (hx : K.lookup x = none) (k : ∀ b o, b ≠ x → h.get? b = some o → h'.get? b = some o) : K.In h' := fun a o e =>
  k a o (fun z => by rw [z, hx] at e; cases e) (X a o e)
theorem ld {M : Model} {env : Env} {L : Addr} {m : Str → Option Value} {y : Str} {pos : Pos} {v : Value} {Q : Value → Shared → Prop} (hn : s.heap.Ns L m) (hL : env.locals = L) (hv : m y = some v) (h : Q v s)
    (hk : env.scope.kind = .function) (hl : env.kindOf y = some .local) (hd : (y == ("__debug__" : Str)) = false) :
    wpAny M A (eval (.Name y pos) env) Q E s := by
  subst hL
  exact wpAny_Name (wpAny_loadName_local hk hl hn hv h) hd
theorem eval_meth {env : Env} {o a : Expr} {as : List Expr} {name : Str} {apos pos : Pos} (hln : (apos.endLine == pos.line) = true) (hf : methodCallForm ((a :: as).length + 0) (backTo pos (starEach (a :: as) env)) [] = true := by rfl) :
    eval (.Call (.Attribute o name apos) (a :: as) [] pos) env = (do
      let ov ← attributeBase o name env (eval o env)
      standAt apos.atName
      let (f, first) ← holding [ov] (getMethod ov name (do return (← importBound o env).getD true))
      callWith pos f first (backTo pos (starEach (a :: as) env)) []) := by
  show (do
    let ov ← attributeBase o name env (eval o env)
    standAt apos.atName
    methodCall o name apos pos env ov ((a :: as).length + 0) (backTo pos (starEach (a :: as) env)) []) = _
  unfold methodCall
  simp only [hf, calleeOf, methodCallPos, Bool.not_true, Bool.false_or, hln, if_true, pure_bind]
theorem drop_own (C : Addr) (l : List Value) : ((Value.ref C :: l).dropWhile (· != .ref C)).drop 1 = l := by
  simp [List.dropWhile_cons]
theorem one_size (v : Value) : [v].length ≤ sizeLine := by
  rw [sizeLine_eq]
  exact (by decide : 1 ≤ 16777216)

theorem err_init (T : ErrTxt prog K mg x f C fI) {e t0 : Addr} {v : Value} (X : K.In s.heap) (hG : s.heap.Ns mainGlobals mg) (hB : s.heap.Ns builtinsNs mb) (hbS : mb "super" = some (.type "super")) (hlim : s.heap.NoLimit)
    (hx : s.heap.get? e = some (excO C t0)) (hnx : K.lookup e = none) (hroom : A.depth < recursionLimit) {args : Args} (ha : args = ⟨[.ref e, v], []⟩ ∨ args = ⟨[.ref e], [(f, v)]⟩)
    (hq : ∀ h' tk dx t1, InitEnd f s.heap h' e C dx t1 v → R (.ok (.ret .none)) { s with heap := h', toks := tk }) :
    codeAny (model prog w) A (.call (.ref fI) args) R s := by
  obtain ⟨qual, oc, od, doc, pm, an, cda, cc, ct, osl, p1, p2, q1, q2, q3, q4, q5, q6, r1, r2, r3, r4, vs, file, tf, ccl, cl, cdd, cld, ccs, csl, ho, hln, hcd, hcda, hvs, hfile, hcc⟩ := T.fn
  obtain ⟨nm, q, N, bs, bm, sn, sub, ab, col, dd, k0, k1, k2, k3, k5, hC, hbm, hal⟩ := T.cls
  have hcl : clsIn K C = some { name := nm, bases := bs, mro := .ref C :: bm, ns := N, qualname := q, hasDict := true, slotNames := sn, subclasses := sub, abstract := ab, collection := col, hasDel := false } := by unfold clsIn; rw [hC] <;> rfl
  refine ks_codeAny_call_defAt (fd := ksFn "__init__" qual (iA1 f p1 p2) (iB1 f q1 q2 q3 q4 q5 q6 r1 r2 r3 r4) (iS1 f) .none .none doc pm an (.ref cda) ct cc) (body := iB1 f q1 q2 q3 q4 q5 q6 r1 r2 r3 r4) (binds := [("self", .ref e), (f, v)]) hroom (X _ _ ho) rfl hlim (codeRec_of X hcd) rfl (BindsTo.of_eq (by
      rcases ha with rfl | rfl
      · exact T.nice.bind _ _ _ _ .none .none _ _ _ _ _ _ _ _
      · exact T.nice.bindK _ _ _ _ .none .none _ _ _ _ _ _ _ _)) T.nice.cel ?_ (fun h₁ hn k => ?_)
  · intro y hy
    rcases List.mem_cons.mp hy with rfl | hy
    · rfl
    · rcases List.mem_cons.mp hy with rfl | hy
      · exact T.nice.own
      · cases hy
  have X₁ : K.In h₁ := X.keeps k
  have hx₁ := k _ _ hx
  have lt : e < s.heap.objs.size := Heap.lt_size hx
  have hself : (fun y => List.lookup y (List.reverse [(("self" : Str), Value.ref e), (f, v)])) "self" = some (.ref e) := by
    show List.lookup ("self" : Str) [(f, v), (("self" : Str), Value.ref e)] = some (.ref e)
    have z : (("self" : Str) == f) = false := by simpa using (Ne.symm T.nice.nse)
    rw [List.lookup_cons, z]
    simp [List.lookup]
  have hf : (fun y => List.lookup y (List.reverse [(("self" : Str), Value.ref e), (f, v)])) f = some v := by
    show List.lookup f [(f, v), (("self" : Str), Value.ref e)] = some v
    simp [List.lookup]
  show _root_.PySem.wpAt _ _ _ (execs (.Expr (.Call (.Attribute (.Call (.Name "super" q1) [] [] q2) "__init__" q3) [.Name f q4] [] q5) q6 :: _) _) _ _ _
  refine ks_wpAt_execs_cons (ks_wpAt_Expr_any (ks_wpAt_MethodCall ?_ (eval_meth hln)))
  refine super_obj (s := { s with heap := h₁, toks := _ }) X₁ (hG.keeps k) (hB.keeps k) T.gS hbS hn ho rfl hself hx₁ hcda hvs hfile hcc hcl T.seC T.nice.sup T.nice.cls rfl rfl T.top (fun h₂ hso k₂ => ?_)
  -- super().__init__
  have k02 : ∀ b o, s.heap.get? b = some o → h₂.get? b = some o := fun b o e => k₂ b o (k b o e)
  have X₂ : K.In h₂ := X.keeps k02
  have hx₂ := k02 _ _ hx
  have sz1 : s.heap.objs.size < h₁.objs.size := hn.lt
  have hI : Looks (model prog w) h₂ (isInstance (.ref e) (.type "ValueError")) true := by
    have I : InstAt h₂ e (excO C t0) C none := ⟨hx₂, rfl, rfl, trivial⟩
    exact I.type.andThen (looks_subIn X₂ T.veC)
  have hmro : Looks (model prog w) h₂ (mroOf (.ref C)) (.ref C :: bm) := fun A Q E s k q => wpAny_bind ((looks_clsIn X₂ hcl) A _ E s k (wpAny_pure q))
  have hne : e ≠ C := fun z => by
    rw [z, X _ _ hC] at hx
    cases hx
  refine kxs_getMethod kxs_ValueError hso (looks_opaque X₂ T.opq) hmro (show _ = bm from drop_own C bm) X₂ hal hI hne (by decide) ?_
  have hn₂ : h₂.Ns s.heap.objs.size (fun y => List.lookup y (List.reverse [(("self" : Str), Value.ref e), (f, v)])) := hn.keeps k₂
  show wpAny _ _ (callWith q5 (.ref h₂.objs.size) [] (backTo q5 (starEach [.Name f q4] _)) []) _ _ _
  have kp : ∀ b o, h₂.get? b = some o → (h₂.push (kxs_mw "ValueError.__init__" e)).get? b = some o := fun b o z => Heap.get?_push_of_some _ z
  refine kxs_callWith (i := "ValueError.__init__") (x := e) rfl (evalArgs_plain ?_)
  refine Calls.spliced_cons (ld (hn₂.keeps kp) rfl hf ?_ rfl T.nice.own T.nice.dbg)
  refine Calls.spliced_nil ?_
  refine ⟨Heap.get?_push_size _ rfl, ?_⟩
  refine call_mw (kp _ _ (X₂ _ _ hC)) (kp _ _ hx₂) (Heap.get?_push_size _ rfl) (one_size v) (fun h₃ t1 k₃ hx₃ => ?_)
  -- self.f = f
  have k23 : ∀ b o, b ≠ e → h₂.get? b = some o → h₃.get? b = some o := fun b o hb z => k₃ b o hb (kp b o z)
  have X₃ : K.In h₃ := kept_but X₂ hnx k23
  have hn₃ : h₃.Ns s.heap.objs.size (fun y => List.lookup y (List.reverse [(("self" : Str), Value.ref e), (f, v)])) := by
    obtain ⟨o, es, ep, e1, r⟩ := hn₂
    exact ⟨o, es, ep, k23 _ _ (Nat.ne_of_gt lt) e1, r⟩
  show _root_.PySem.wpAt _ _ _ (execs [.Assign [.Attribute (.Name "self" r1) f r2] (.Name f r3) r4] _) _ _ _
  refine ks_wpAt_execs_cons (ks_wpAt_Assign_Attr (wpAt_of_wpAny ?_))
  refine ld hn₃ rfl hf (ld hn₃ rfl hself ?_ rfl rfl rfl) rfl T.nice.own T.nice.dbg
  refine set_plain X₃ (ox := excO C t1) (od := none) ⟨hx₃, rfl, rfl, trivial⟩ T.sa ?_
  refine exc_osa X₃ hx₃ hcl (show refsVE (.ref C :: bm) = true from hbm) rfl T.noN (fun h₄ tk₄ dx k₄ dn dne hx₄ hn₄ => ?_)
  show _root_.PySem.wpAt _ _ _ (execs [] _) _ _ _
  refine wpAt_of_wpAny (wpAny_execs_nil (hq h₄ tk₄ dx t1 ⟨fun b o hb z => k₄ b o hb (k23 b o hb (k02 b o z)), hx₄, ?_, dne, hn₄⟩))
  have l3 : s.heap.objs.size < h₃.objs.size := hn₃.lt
  exact Nat.le_of_lt (Nat.lt_of_lt_of_le l3 dn)
/-- X(v) -/
theorem err_made (T : ErrTxt prog K mg x f C fI) {v : Value} (X : K.In s.heap) (hG : s.heap.Ns mainGlobals mg) (hB : s.heap.Ns builtinsNs mb) (hbS : mb "super" = some (.type "super")) (hlim : s.heap.NoLimit) (hroom : A.depth + 1 < recursionLimit)
    (hq : ∀ h' tk e d, OwnMade f s.heap h' e C d v → R (.ok (.ret (.ref e))) { s with heap := h', toks := tk }) :
    codeAny (model prog w) A (.call (.ref C) ⟨[v], []⟩) R s := by
  obtain ⟨nm, q, N, bs, bm, sn, sub, ab, col, dd, k0, k1, k2, k3, k5, hC, hbm, _⟩ := T.cls
  obtain ⟨hp, g, dr, tk, os⟩ := s
  have k : ∀ b o, hp.get? b = some o → ((hp.push (kdv_tup [v])).push (excO C hp.objs.size)).get? b = some o := fun b o e => Heap.get?_push_of_some _ (Heap.get?_push_of_some _ e)
  have hget : ((hp.push (kdv_tup [v])).push (excO C hp.objs.size)).get? (hp.objs.size + 1) = some (excO C hp.objs.size) := by heap_get
  have hnx : K.lookup (hp.objs.size + 1) = none := by
    cases e : K.lookup (hp.objs.size + 1) with
    | none => rfl
    | some o =>
      have z : hp.get? (hp.objs.size + 1) = some o := X _ _ e
      exact absurd (Nat.lt_of_succ_lt (Heap.lt_size z)) (Nat.lt_irrefl _)
  refine call_own F.excBase_ValueError (fun X => refsVE_contains X bm hbm) (X _ _ hC) (looks_findIn X T.iC) (fun self => bind_fn X self T.tC) (one_size v) ?_
  refine err_init (s := ⟨(hp.push (kdv_tup [v])).push (excO C hp.objs.size), g, dr, tk, os⟩) (mb := mb) T (X.keeps k) (hG.keeps k) (hB.keeps k) hbS (hlim.keeps k) hget hnx ?_ (.inl rfl) fun h' tk' dx t1 ⟨k', hx, dn, dne, hns⟩ => ?_
  · show A.depth + 1 < recursionLimit
    exact hroom
  · have old : ∀ b o, hp.get? b = some o → h'.get? b = some o := fun b o e => k' b o (Nat.ne_of_lt (Nat.lt_succ_of_lt (Heap.lt_size e))) (k b o e)
    have z : hp.objs.size + 1 + 1 ≤ dx := by
      first
        | (simpa only [Heap.size_push] using dn)
        | exact dn
        | (have q := dn; rw [Heap.size_push, Heap.size_push] at q; exact q)
    exact ⟨rfl, hq h' tk' (hp.objs.size + 1) dx ⟨old, Nat.le_succ _, ⟨_, _, hx, rfl, rfl, rfl, rfl⟩, Nat.le_trans (Nat.le_trans (Nat.le_succ _) (Nat.le_succ _)) z, dne, hns⟩⟩
end
end LadX
end PySem
namespace L2
open PySem PySem.Spec PyProof.Rows
theorem relO_err {f : Str} {v : V} {v' : Value} (r : RelV v v') (g : Str) : RelO (List.lookup g [(f, v)]) (if g = f then some v' else none) := by
  by_cases hw : g = f
  · subst hw
    rw [if_pos rfl]
    have q : List.lookup g [(g, v)] = some v := by simp [List.lookup]
    rw [q]
    exact r
  · rw [if_neg hw]
    have qw : (g == f) = false := by simpa using hw
    have q2 : List.lookup g [(f, v)] = none := by simp [List.lookup, qw]
    rw [q2]
    trivial
section
variable {X : Cx} {C fI : Addr} {x f : Str}
/-- X(e) -/
def tMkErr (C : Addr) (f : Str) (ta : TA) : St → Hp → XK → Prop := fun σ H Q => ta σ H fun vs H1 => ∃ v, vs = [v] ∧ ∀ d, H1 d = none → Q (.ref C) (some d) (upd H1 d (.xd [(f, v)]))
theorem mkp_err {pins : List (Addr × Obj)} {σ : St} {H1 : Hp} {Q : XK} {hp : Heap} {g : Array GenState} {dr : Drawn} {tk tk' : Nat} {os : OsState} {v : V} {v' : Value} {h' : Heap} {e d : Addr} (T : PySem.LadX.ErrTxt X.prog X.K X.mg x f C fI)
    (I1 : Inv X pins σ H1 ⟨hp, g, dr, tk, os⟩) (rv : RelV v v') (M : PySem.LadX.OwnMade f hp h' e C d v') (q1 : Q (.ref C) (some d) (upd H1 d (.xd [(f, v)]))) : MkP X pins σ Q (.ref e) ⟨h', g, dr, tk', os⟩ := by
  obtain ⟨oe, fv, hoe, hc, hd, hdat, h1⟩ := M.obj
  have hns := M.ns
  obtain ⟨G', g1, g2⟩ := restrict h' fun b => decide (b ≠ e)
  have gk : ∀ b, b ≠ e → G'.get? b = h'.get? b := fun b hb => g1 b (decide_eq_true hb)
  have ge : G'.get? e = none := g2 e (by simp)
  have old : ∀ b o, hp.get? b = some o → G'.get? b = some o := fun b o q => (gk b (Nat.ne_of_lt (Nat.lt_of_lt_of_le (Heap.lt_size q) M.new))).trans (M.keep b o q)
  have ob : ObjOk X.prog X.w (upd H1 d (.xd [(f, v)])) G' d (.xd [(f, v)]) :=
    ⟨_, hns.at (fun o q => (gk d M.dne).trans q), fun f => relO_err rv f⟩
  have J : Inv X pins σ (upd H1 d (.xd [(f, v)])) ⟨G', g, dr, tk', os⟩ := I1.laid (t' := tk') old M.dbig ob
  refine ⟨e, oe, fv, ⟨G', g, dr, tk', os⟩, _, .ref C, some d, rfl, J, fun b o q => ?_, ge, hoe, ⟨hc, hd⟩, hdat, h1, ?_, rfl, I1.bare, raises_own T.exC T.tyC, q1⟩
  · by_cases hb : b = e
    · have q' : G'.get? b = some o := q
      rw [hb, ge] at q'; cases q'
    · exact (gk b hb).symm.trans q
  · rw [upd_ne (Ne.symm M.dne)]
    exact I1.hok.fresh M.new
theorem pmk_err {a : Expr} {ta : TA} {p pos : Pos} {k : Nat} (T : PySem.LadX.ErrTxt X.prog X.K X.mg x f C fI) (hr : Room k X.A) (ha : PA X [a] ta) (hg : Gl X x := by rfl) (hdb : (x == ("__debug__" : Str)) = false := by decide)
    (he : starEach (a :: []) X.env = (false, eval a X.env) :: starEach [] X.env := by rfl) (hpl : (backTo pos (starEach [] X.env)).any (·.1) = false := by rfl) :
    PMk X (.Call (.Name x p) [a] [] pos) (tMkErr C f ta) := by
  intro pins s σ H Q I h
  refine wpAny_Call_Name_kw (ld_glob I hg T.gC ?_ hdb)
  refine PySem.W.callWith_K (h₀ := X.base) I.ok.mod.kin T.kC (thn (ha.run pos pins s σ H _ I h) fun us s1 hh => ?_) he hpl
  obtain ⟨vs, H1, I1, r1, v, ev, q1⟩ := hh
  subst ev
  refine ⟨I1.kIn, ?_⟩
  cases r1 with
  | cons rv rn =>
    rename_i v' us'
    cases rn
    show wpAny _ _ (call (.ref C) [v']) _ _ _
    have hlim := I1.nolimit
    obtain ⟨mb, hmb, hbb⟩ := I1.ok.mod.blt
    have hG := I1.ok.mod.glob.keeps I1.bk
    have hB := hmb.keeps I1.bk
    have hbS : mb "super" = some (.type "super") := (hbb _ (by decide)).trans (by decide +kernel)
    have kin := I1.kIn
    obtain ⟨hp, g, dr, tk, os⟩ := s1
    refine wpAny_call (PySem.LadX.err_made T kin hG hB hbS hlim (by have := hr.dp; omega) fun h' tk' e d M => ?_)
    show MkP X pins σ Q (.ref e) ⟨h', g, dr, tk', os⟩
    exact mkp_err T I1 rv M (q1 d (I1.hok.fresh M.dbig))
/-- raise X(e) -/
def tRaiseErr (C : Addr) (f : Str) (W : WX) (ta : TA) : TS := fun _ σ H => tMkErr C f ta σ H fun cls d H' => W cls d σ H'
theorem ps_raiseErr {a : Expr} {ta : TA} {W : WX} {p pos pos2 : Pos} {k : Nat} (hc : X.calm = true) (T : PySem.LadX.ErrTxt X.prog X.K X.mg x f C fI) (hr : Room k X.A) (tk : Takes X W) (ha : PA X [a] ta) (hg : Gl X x := by rfl) (hdb : (x == ("__debug__" : Str)) = false := by decide)
    (he : starEach (a :: []) X.env = (false, eval a X.env) :: starEach [] X.env := by rfl) (hpl : (backTo pos (starEach [] X.env)).any (·.1) = false := by rfl) :
    PS X (.Raise (some (.Call (.Name x p) [a] [] pos)) none pos2) (tRaiseErr C f W ta) := ps_raise hc tk (pmk_err T hr ha hg hdb he hpl)
/-- e.f, e the exception that the suite holds (at a; its class cls, its dict d); K says what its class is: any class that looks like an error and has no f -/
structure ErrLook (K : PySem.W.Frag) (C : Addr) : Prop where
  ga : PySem.W.findIn K (.ref C) "__getattribute__" = some (some (.builtin "BaseException.__getattribute__"))
  gg : PySem.W.findIn K (.ref C) "__getattr__" = some none
  exC : PySem.W.subIn K (.ref C) (.type "BaseException") = some true
  hdC : PySem.W.hasDictIn K C = true
theorem _root_.PySem.LadX.ErrTxt.look (T : PySem.LadX.ErrTxt X.prog X.K X.mg x f C fI) : ErrLook X.K C := ⟨T.ga, T.gg, T.exC, T.hdC⟩
def tByErr (K : PySem.W.Frag) (f : Str) (a : Addr) (cls : Value) (d : Option Addr) (te : TE) : TE := fun σ H Q => te σ H fun x H1 => x = .ref a ∧ ∃ C, cls = .ref C ∧ ErrLook K C ∧ PySem.W.findIn K (.ref C) f = some none ∧ ∃ (dd : Addr) (fs : List (Str × V)) (v : V), d = some dd ∧ H1 dd = some (.xd fs) ∧ fs.lookup f = some v ∧ Q v H1
theorem pe_byErr {a : Addr} {oe : Obj} {cls : Value} {d : Option Addr} {pn : List (Addr × Obj)} {e : Expr} {te : TE} {pos : Pos} (hz : Zc cls d oe) (hf : ∃ vs, oe.data = .fields vs) (he : PE (X.suite a ((a, oe) :: pn)) e te)
    (hb : attributeBase e f X.env (eval e X.env) = eval e X.env := by rfl) :
    PE (X.suite a ((a, oe) :: pn)) (.Attribute e f pos) (tByErr X.K f a cls d te) := by
  refine ⟨fun pins s σ H Q I h => ?_⟩
  refine attr_of hb (thn (he.run pins s σ H _ I h) fun u s1 hh => ?_)
  obtain ⟨x, H1, I1, rx, ex, C, ec, T, noN, dd, fs, v, ed, ea, l, q⟩ := hh
  subst ex
  obtain rfl : u = Value.ref a := rx
  subst ec
  subst ed
  obtain ⟨ha, _⟩ := I1.pin (a, oe) (List.mem_append_left _ List.mem_cons_self)
  obtain ⟨vs, hd⟩ := hf
  have hx : ObjOk X.prog X.w H1 s1.heap dd (.xd fs) := I1.hok dd _ ea
  obtain ⟨mA, hns, hr⟩ := hx
  obtain ⟨od, ho, hl⟩ := lookIn_ns hns
  obtain ⟨u, hu, ru⟩ := RelO.some_of (v := v) (o := mA f) (by rw [← l]; exact hr f)
  have J : PySem.W.InstAt s1.heap a oe C (some od) := ⟨ha, hz.1, by unfold PySem.W.notCls; rw [hd] <;> rfl, by rw [hz.2]; exact ho⟩
  exact HandSPX.exc_get I1.kIn J T.ga T.gg T.exC (PySem.W.findObj_own T.hdC noN rfl (by rw [hl, hu])) (handed_of ru) ⟨v, H1, I1.tok _, ru, q⟩
end
end L2
set_option Elab.async false
set_option linter.all false
set_option maxRecDepth 100000
set_option maxHeartbeats 4000000
/-! The errors made with their fields by name. -/
namespace PySem
namespace LadX
open PySem.W PySem.Calls PyProof.Rows PySem.HandSPX
section
variable {prog : Program} {w : World} {A : Around} {E : Value → Shared → Prop} {R : Result → Shared → Prop} {s : Shared} {K : Frag} {mg mb : Str → Option Value} {x f : Str} {C fI : Addr}
/-- BaseException.__new__ for a class of this kind: what is given by position is kept as args -/
theorem exc_laid0 {h : Heap} {g : Array GenState} {d : Drawn} {t : Nat} {os : OsState} {nm q : Str} {N : Addr} {bs bm : List Value} {hdct : Bool} {sn : List Str} {sub : List Value} {ab : Bool} {col : Option Bool} {dd : Option Addr} {k0 k1 k2 k3 k5 : Option Value}
    (hC : h.get? C = some (excClassObj nm q C N bs bm hdct sn sub ab col dd k0 k1 k2 k3 k5 "ValueError.__new__")) (hbm : refsVE bm = true) {rest : List Value} {kw : List (Str × Value)} (hrest : rest.length ≤ sizeLine)
    (hq : R (.ok (.ret (.ref (h.objs.size + 1)))) ⟨(h.push (kdv_tup rest)).push (excO C h.objs.size), g, d, t, os⟩) :
    codeAny (model prog w) A (.builtin "ValueError.__new__" ⟨.ref C :: rest, kw⟩) R ⟨h, g, d, t, os⟩ := by
  have F := F.excBase_ValueError
  have has : ∀ X : String, (Value.ref C :: bm).contains (.type X) = veTail.contains (.type X) := fun X => by
    rw [List.contains_cons, refsVE_contains X bm hbm]
    rfl
  have c1 : (Value.ref C :: bm).contains (.type "ValueError") = true := (has _).trans (by decide +kernel)
  have c2 : (Value.ref C :: bm).contains (.type "AttributeError") = false := (has _).trans (by decide +kernel)
  have c3 : (Value.ref C :: bm).contains (.type "NameError") = false := (has _).trans (by decide +kernel)
  have ends := F.ends
  refine codeAny_builtinAt F.entry ?_
  unfold Builtin.«BaseException.__new__»
  refine wpAt_bind ?_
  show wpAt _ _ _ (stack >>= _) _ _ _
  refine wpAt_bind (wpAt_stack fun p below => wpAt_of_wpAny ?_)
  wp_walk
  refine wpAt_of_wpAny ?_
  rw [F.owner]
  repeat (first | with_reducible refine wpAny_madeHere_exc F.canon hC ?_ | with_reducible refine wpAny_loadPart_at hC ?_ | (with_reducible refine wpAny_isSubtype_exc hC ?_; first | rw [c1] | rw [c2] | rw [c3]) | wp_step)
  show R _ _
  rw [Heap.size_push]
  exact hq
/-- a class of this kind is called with positions and names: the exception, then its own __init__ -/
theorem own_made {h : Heap} {g : Array GenState} {d : Drawn} {t : Nat} {os : OsState} {nm q : Str} {N : Addr} {bs bm : List Value} {hdct : Bool} {sn : List Str} {sub : List Value} {ab : Bool} {col : Option Bool} {dd : Option Addr} {k0 k1 k2 k3 k5 : Option Value}
    (hC : h.get? C = some (excClassObj nm q C N bs bm hdct sn sub ab col dd k0 k1 k2 k3 k5 "ValueError.__new__")) (hbm : refsVE bm = true) {rest : List Value} {kw : List (Str × Value)}
    (hi : Looks (model prog w) h (typeLookup (.ref C) "__init__") (some (.ref fI))) (hb : ∀ self, Looks (model prog w) h (bindSpecial (.ref fI) self) (.ref fI, [self])) (hrest : rest.length ≤ sizeLine)
    (hq : codeAny (model prog w) (A.under (.builtin "type.__call__" ⟨.ref C :: rest, kw⟩)) (.call (.ref fI) ⟨.ref (h.objs.size + 1) :: rest, kw⟩) (InitBack (h.objs.size + 1) R) ⟨(h.push (kdv_tup rest)).push (excO C h.objs.size), g, d, t, os⟩) :
    codeAny (model prog w) A (.call (.ref C) ⟨rest, kw⟩) R ⟨h, g, d, t, os⟩ := by
  have F := F.excBase_ValueError
  have has : ∀ X : String, (Value.ref C :: bm).contains (.type X) = veTail.contains (.type X) := fun X => by
    rw [List.contains_cons, refsVE_contains X bm hbm]
    rfl
  have c1 : (Value.ref C :: bm).contains (.type "ValueError") = true := (has _).trans (by decide +kernel)
  have c4 : (Value.ref C :: bm).contains (.ref C) = true := by simp
  have tl := tc_lookup
  have tb := tc_bind (.ref C)
  have ty : (⟨h, g, d, t, os⟩ : Shared).TypeIs (.ref C) "type" := ⟨_, hC, rfl⟩
  refine codeAny_of_tree ?_
  show wpAny _ _ (callAny (.ref C) _) _ _ _
  repeat (any_goals (first | assumption | with_reducible refine wpAny_loadPart_at hC ?_ | wp_step))
  refine ⟨rfl, codeAny_call_builtin_at (Code.quiet_builtin _ (by decide +kernel)) entry_typeCall (wpAny_check_type_call_sub hC ?_)⟩
  repeat (first | with_reducible refine wpAny_loadPart_at hC ?_ | with_reducible refine wpAny_madeBy_exc hC ?_ | wp_step)
  refine codeAny_call_builtin_code (Code.quiet_builtin _ F.quiet) ?_
  -- what ValueError.__new__ asks of its arguments
  have star := F.noStar
  simp only [checkBuiltinCall, F.newKind, F.newSplit, F.newRow]
  repeat (first | refine wpAny_loadPart_at hC ?_ | (refine wpAny_isSubtype_exc hC ?_; rw [c1]) | refine wpAny_staticBase_exc hC ?_ | refine wpAny_madeBy_exc hC ?_ | simp only [bne_self_eq_false, Bool.false_eq_true, if_false] | wp_step)
  refine exc_laid0 hC hbm hrest ?_
  show wpAny _ _ _ _ _ _
  -- its __init__
  have k : ∀ b o, h.get? b = some o → ((h.push (kdv_tup rest)).push (excO C h.objs.size)).get? b = some o := fun b o e => Heap.get?_push_of_some _ (Heap.get?_push_of_some _ e)
  have hC₁ := k _ _ hC
  have hget : ((h.push (kdv_tup rest)).push (excO C h.objs.size)).get? (h.objs.size + 1) = some (excO C h.objs.size) := by heap_get
  have i1 := hi.keeps k
  have b1 := (hb (.ref (h.objs.size + 1))).keeps k
  unfold isInstance
  repeat (first | with_reducible refine wpAny_loadPart_at hget ?_ | (with_reducible refine wpAny_isSubtype_exc hC₁ ?_; rw [c4]) | wp_step)
  show wpAny _ _ (isSubtype (.ref C) (.ref C)) _ _ ⟨(h.push (kdv_tup rest)).push (excO C h.objs.size), g, d, t, os⟩
  refine wpAny_isSubtype_exc hC₁ ?_
  rw [c4]
  repeat wp_step
  show wpAny _ _ (typeLookup (.ref C) _) _ _ _
  refine i1.at (wpAny_holding (wpAny_bind (b1.at (wpAny_bind (wpAny_call (codeAny_mono hq fun r s' z => ?_))))))
  rcases r with e | (v | _ | _ | _) <;> first | exact z | exact z.elim | skip
  obtain ⟨rfl, z⟩ := z
  first
    | exact wpAny_pure (wpAny_pure z)
    | (wp_walk; exact z)
/-- X(v), X(f = v) -/
theorem err_madeK (T : ErrTxt prog K mg x f C fI) {v : Value} (X : K.In s.heap) (hG : s.heap.Ns mainGlobals mg) (hB : s.heap.Ns builtinsNs mb) (hbS : mb "super" = some (.type "super")) (hlim : s.heap.NoLimit) (hroom : A.depth + 1 < recursionLimit) {args : Args} (ha : args = ⟨[v], []⟩ ∨ args = ⟨[], [(f, v)]⟩)
    (hq : ∀ h' tk e d, OwnMade f s.heap h' e C d v → R (.ok (.ret (.ref e))) { s with heap := h', toks := tk }) :
    codeAny (model prog w) A (.call (.ref C) args) R s := by
  obtain ⟨nm, q, N, bs, bm, sn, sub, ab, col, dd, k0, k1, k2, k3, k5, hC, hbm, _⟩ := T.cls
  obtain ⟨hp, g, dr, tk, os⟩ := s
  obtain ⟨rest, kw⟩ := args
  have ha' : rest.length ≤ 1 ∧ (∀ e : Addr, (⟨.ref e :: rest, kw⟩ : Args) = ⟨[.ref e, v], []⟩ ∨ (⟨.ref e :: rest, kw⟩ : Args) = ⟨[.ref e], [(f, v)]⟩) := by
    rcases ha with ha | ha
    · cases ha
      exact ⟨Nat.le_refl _, fun e => .inl rfl⟩
    · cases ha
      exact ⟨Nat.zero_le _, fun e => .inr rfl⟩
  have k : ∀ b o, hp.get? b = some o → ((hp.push (kdv_tup rest)).push (excO C hp.objs.size)).get? b = some o := fun b o e => Heap.get?_push_of_some _ (Heap.get?_push_of_some _ e)
  have hget : ((hp.push (kdv_tup rest)).push (excO C hp.objs.size)).get? (hp.objs.size + 1) = some (excO C hp.objs.size) := by heap_get
  have hnx : K.lookup (hp.objs.size + 1) = none := by
    cases e : K.lookup (hp.objs.size + 1) with
    | none => rfl
    | some o =>
      have z : hp.get? (hp.objs.size + 1) = some o := X _ _ e
      exact absurd (Nat.lt_of_succ_lt (Heap.lt_size z)) (Nat.lt_irrefl _)
  refine own_made (X _ _ hC) hbm (looks_findIn X T.iC) (fun self => bind_fn X self T.tC) (Nat.le_trans ha'.1 (one_size v)) ?_
  refine err_init (s := ⟨(hp.push (kdv_tup rest)).push (excO C hp.objs.size), g, dr, tk, os⟩) (mb := mb) T (X.keeps k) (hG.keeps k) (hB.keeps k) hbS (hlim.keeps k) hget hnx ?_ (ha'.2 _) fun h' tk' dx t1 ⟨k', hx, dn, dne, hns⟩ => ?_
  · show A.depth + 1 < recursionLimit
    exact hroom
  · have old : ∀ b o, hp.get? b = some o → h'.get? b = some o := fun b o e => k' b o (Nat.ne_of_lt (Nat.lt_succ_of_lt (Heap.lt_size e))) (k b o e)
    have z : hp.objs.size + 1 + 1 ≤ dx := by
      first
        | (simpa only [Heap.size_push] using dn)
        | exact dn
        | (have q := dn; rw [Heap.size_push, Heap.size_push] at q; exact q)
    exact ⟨rfl, hq h' tk' (hp.objs.size + 1) dx ⟨old, Nat.le_succ _, ⟨_, _, hx, rfl, rfl, rfl, rfl⟩, Nat.le_trans (Nat.le_trans (Nat.le_succ _) (Nat.le_succ _)) z, dne, hns⟩⟩
end
end LadX
end PySem
set_option Elab.async false
set_option linter.all false
set_option maxRecDepth 100000
set_option maxHeartbeats 4000000
/-! The error of two fields: class Refused(LadderError): super().__init__(reason, names); self.reason = reason; self.names = names. -/
namespace PySem
namespace LadX
open PySem.W PySem.Calls PyProof.Rows PySem.HandSPX
def jA (p1 p2 p3 : Pos) : Arguments := { posonlyargs := [], args := [{ arg := "self", annotation := none, pos := p1 }, { arg := "reason", annotation := none, pos := p2 }, { arg := "names", annotation := none, pos := p3 }], vararg := none, kwonlyargs := [], kw_defaults := [], kwarg := none, defaults := [] }
def jB (q1 q2 q3 q4 q5 q6 q7 r1 r2 r3 r4 s1 s2 s3 s4 : Pos) : List Stmt := [.Expr (.Call (.Attribute (.Call (.Name "super" q1) [] [] q2) "__init__" q3) [.Name "reason" q4, .Name "names" q5] [] q6) q7, .Assign [.Attribute (.Name "self" r1) "reason" r2] (.Name "reason" r3) r4, .Assign [.Attribute (.Name "self" s1) "names" s2] (.Name "names" s3) s4]
def jS : Scope := { kind := .function, names := [(PySem.Str.ofString "self", .local), (PySem.Str.ofString "reason", .local), (PySem.Str.ofString "names", .local), (PySem.Str.ofString "__class__", .free), (PySem.Str.ofString "super", .globalImplicit)], isGenerator := false, isCoroutine := false, more := [] }
structure RefTxt (prog : Program) (K : Frag) (mg : Str → Option Value) (x : Str) (C fI : Addr) : Prop where
  gC : mg x = some (.ref C)
  gS : mg "super" = none
  cls : ∃ nm q N bs bm sn sub ab col dd k0 k1 k2 k3 k5, K.lookup C = some (excClassObj nm q C N bs bm true sn sub ab col dd k0 k1 k2 k3 k5 "ValueError.__new__") ∧ refsVE bm = true ∧ alongIn K "__init__" bm = some (some (.builtin "ValueError.__init__"))
  opq : nsIn K cStatics "thirdparty.any" = some none
  sa : findIn K (.ref C) "__setattr__" = some (some (.builtin "object.__setattr__"))
  ga : findIn K (.ref C) "__getattribute__" = some (some (.builtin "BaseException.__getattribute__"))
  gg : findIn K (.ref C) "__getattr__" = some none
  no1 : findIn K (.ref C) "reason" = some none
  no2 : findIn K (.ref C) "names" = some none
  iC : findIn K (.ref C) "__init__" = some (some (.ref fI))
  tC : typeIn K (.ref fI) = some (.type "function")
  kC : keepIn K (.ref C) = true
  exC : subIn K (.ref C) (.type "BaseException") = some true
  veC : subIn K (.ref C) (.type "ValueError") = some true
  seC : mroIn K C (.ref C) = some true
  tyC : typeIn K (.ref C) = some (.type "type")
  hdC : hasDictIn K C = true
  top : (prog.main.scope.names.lookup ("super" : Str)).isSome = false
  fn : ∃ (qual : Str) (oc : Value) (od : Option Addr) (doc pm : Value) (an : Option Addr) (cda cc : Addr) (ct : Value) (osl : Array (Option Value)) (p1 p2 p3 q1 q2 q3 q4 q5 q6 q7 r1 r2 r3 r4 s1 s2 s3 s4 : Pos) (vs : Array Value) (file : Str) (tf : Tok) (ccl cl : Value) (cdd cld : Option Addr) (ccs csl : Array (Option Value)),
    K.lookup fI = some ⟨oc, od, .func (ksFn "__init__" qual (jA p1 p2 p3) (jB q1 q2 q3 q4 q5 q6 q7 r1 r2 r3 r4 s1 s2 s3 s4) jS .none .none doc pm an (.ref cda) ct cc), osl⟩ ∧ (q3.endLine == q6.line) = true ∧ codeIn K (.ref cda) qual = true ∧
    K.lookup cda = some ⟨ccl, cdd, .fields vs, ccs⟩ ∧ vs[2]? = some (.str file tf) ∧ ((prog.main.file : Str) == file) = true ∧ K.lookup cc = some ⟨cl, cld, .cell (some (.ref C)), csl⟩
/-- the ways in which reason v1 and names v2 may be told -/
def TwoWays (pre : List Value) (v1 v2 : Value) (args : Args) : Prop := args = ⟨pre ++ [v1, v2], []⟩ ∨ args = ⟨pre, [("reason", v1), ("names", v2)]⟩ ∨ args = ⟨pre, [("names", v2), ("reason", v1)]⟩
section
variable {prog : Program} {w : World} {A : Around} {E : Value → Shared → Prop} {R : Result → Shared → Prop} {s : Shared} {K : Frag} {mg mb : Str → Option Value} {x : Str} {C fI : Addr}
structure InitEnd2 (h h' : Heap) (x C dx t1 : Addr) (v1 v2 : Value) : Prop where
  keep : ∀ b o, b ≠ x → h.get? b = some o → h'.get? b = some o
  obj : h'.get? x = some { cls := .ref C, dict := some dx, data := .fields #[.ref t1, .none, .none, .none, .bool false, .none] }
  dbig : h.objs.size ≤ dx
  dne : dx ≠ x
  ns : h'.Ns1 dx (fun y => if y = "names" then some v2 else if y = "reason" then some v1 else none)
structure OwnMade2 (h h' : Heap) (e C d : Addr) (v1 v2 : Value) : Prop where
  keep : ∀ b o, h.get? b = some o → h'.get? b = some o
  new : h.objs.size ≤ e
  obj : ∃ oe vs, h'.get? e = some oe ∧ oe.cls = .ref C ∧ oe.dict = some d ∧ oe.data = .fields vs ∧ vs[1]? = some .none
  dbig : h.objs.size ≤ d
  dne : d ≠ e
  ns : h'.Ns1 d (fun y => if y = "names" then some v2 else if y = "reason" then some v1 else none)
theorem two_size (v1 v2 : Value) : [v1, v2].length ≤ sizeLine := by
  rw [sizeLine_eq]
  exact (by decide : 2 ≤ 16777216)
theorem within_if {f : Str} {v : Value} : Within (fun y => if y = f then some v else none) [f] := fun y hy => by
  by_cases h : y = f
  · rw [h]
    exact List.mem_singleton.mpr rfl
  · exact absurd (if_neg h) hy
theorem ref_init (T : RefTxt prog K mg x C fI) {e t0 : Addr} {v1 v2 : Value} (X : K.In s.heap) (hG : s.heap.Ns mainGlobals mg) (hB : s.heap.Ns builtinsNs mb) (hbS : mb "super" = some (.type "super")) (hlim : s.heap.NoLimit)
    (hx : s.heap.get? e = some (excO C t0)) (hnx : K.lookup e = none) (hroom : A.depth < recursionLimit) {args : Args} (ha : TwoWays [.ref e] v1 v2 args)
    (hq : ∀ h' tk dx t1, InitEnd2 s.heap h' e C dx t1 v1 v2 → R (.ok (.ret .none)) { s with heap := h', toks := tk }) :
    codeAny (model prog w) A (.call (.ref fI) args) R s := by
  obtain ⟨qual, oc, od, doc, pm, an, cda, cc, ct, osl, p1, p2, p3, q1, q2, q3, q4, q5, q6, q7, r1, r2, r3, r4, s1, s2, s3, s4, vs, file, tf, ccl, cl, cdd, cld, ccs, csl, ho, hln, hcd, hcda, hvs, hfile, hcc⟩ := T.fn
  obtain ⟨nm, q, N, bs, bm, sn, sub, ab, col, dd, k0, k1, k2, k3, k5, hC, hbm, hal⟩ := T.cls
  have hcl : clsIn K C = some { name := nm, bases := bs, mro := .ref C :: bm, ns := N, qualname := q, hasDict := true, slotNames := sn, subclasses := sub, abstract := ab, collection := col, hasDel := false } := by unfold clsIn; rw [hC] <;> rfl
  refine ks_codeAny_call_defAt (fd := ksFn "__init__" qual (jA p1 p2 p3) (jB q1 q2 q3 q4 q5 q6 q7 r1 r2 r3 r4 s1 s2 s3 s4) jS .none .none doc pm an (.ref cda) ct cc) (body := jB q1 q2 q3 q4 q5 q6 q7 r1 r2 r3 r4 s1 s2 s3 s4) (binds := [("self", .ref e), ("reason", v1), ("names", v2)]) hroom (X _ _ ho) rfl hlim (codeRec_of X hcd) rfl (BindsTo.of_eq (by
      rcases ha with rfl | rfl | rfl <;> rfl)) (show ∀ x ∈ jS.names, x.2 ≠ .cell by decide +kernel) ?_ (fun h₁ hn k => ?_)
  · intro y hy
    rcases List.mem_cons.mp hy with rfl | hy
    · rfl
    · rcases List.mem_cons.mp hy with rfl | hy
      · rfl
      · rcases List.mem_cons.mp hy with rfl | hy
        · rfl
        · cases hy
  have X₁ : K.In h₁ := X.keeps k
  have hx₁ := k _ _ hx
  have lt : e < s.heap.objs.size := Heap.lt_size hx
  have m0 : (fun y => List.lookup y (List.reverse [(("self" : Str), Value.ref e), ("reason", v1), ("names", v2)])) "self" = some (.ref e) := by with_unfolding_all rfl
  have m1 : (fun y => List.lookup y (List.reverse [(("self" : Str), Value.ref e), ("reason", v1), ("names", v2)])) "reason" = some v1 := by with_unfolding_all rfl
  have m2 : (fun y => List.lookup y (List.reverse [(("self" : Str), Value.ref e), ("reason", v1), ("names", v2)])) "names" = some v2 := by with_unfolding_all rfl
  generalize (fun y => List.lookup y (List.reverse [(("self" : Str), Value.ref e), ("reason", v1), ("names", v2)])) = m at hn m0 m1 m2
  show _root_.PySem.wpAt _ _ _ (execs (.Expr (.Call (.Attribute (.Call (.Name "super" q1) [] [] q2) "__init__" q3) [.Name "reason" q4, .Name "names" q5] [] q6) q7 :: _) _) _ _ _
  refine ks_wpAt_execs_cons (ks_wpAt_Expr_any (ks_wpAt_MethodCall ?_ (eval_meth hln)))
  refine super_obj (s := { s with heap := h₁, toks := _ }) X₁ (hG.keeps k) (hB.keeps k) T.gS hbS hn ho rfl m0 hx₁ hcda hvs hfile hcc hcl T.seC rfl rfl rfl rfl T.top (fun h₂ hso k₂ => ?_)
  -- super().__init__
  have k02 : ∀ b o, s.heap.get? b = some o → h₂.get? b = some o := fun b o e => k₂ b o (k b o e)
  have X₂ : K.In h₂ := X.keeps k02
  have hx₂ := k02 _ _ hx
  have sz1 : s.heap.objs.size < h₁.objs.size := hn.lt
  have hI : Looks (model prog w) h₂ (isInstance (.ref e) (.type "ValueError")) true := by
    have I : InstAt h₂ e (excO C t0) C none := ⟨hx₂, rfl, rfl, trivial⟩
    exact I.type.andThen (looks_subIn X₂ T.veC)
  have hmro : Looks (model prog w) h₂ (mroOf (.ref C)) (.ref C :: bm) := fun A Q E s k q => wpAny_bind ((looks_clsIn X₂ hcl) A _ E s k (wpAny_pure q))
  have hne : e ≠ C := fun z => by
    rw [z, X _ _ hC] at hx
    cases hx
  refine kxs_getMethod kxs_ValueError hso (looks_opaque X₂ T.opq) hmro (show _ = bm from drop_own C bm) X₂ hal hI hne (by decide) ?_
  have hn₂ := hn.keeps k₂
  show wpAny _ _ (callWith q6 (.ref h₂.objs.size) [] (backTo q6 (starEach [.Name "reason" q4, .Name "names" q5] _)) []) _ _ _
  have kp : ∀ b o, h₂.get? b = some o → (h₂.push (kxs_mw "ValueError.__init__" e)).get? b = some o := fun b o z => Heap.get?_push_of_some _ z
  refine kxs_callWith (i := "ValueError.__init__") (x := e) rfl (evalArgs_plain ?_)
  refine Calls.spliced_cons (ld (hn₂.keeps kp) rfl m1 ?_ rfl rfl rfl)
  refine Calls.spliced_cons (ld (hn₂.keeps kp) rfl m2 ?_ rfl rfl rfl)
  refine Calls.spliced_nil ?_
  refine ⟨Heap.get?_push_size _ rfl, ?_⟩
  refine call_mw (kp _ _ (X₂ _ _ hC)) (kp _ _ hx₂) (Heap.get?_push_size _ rfl) (two_size v1 v2) (fun h₃ t1 k₃ hx₃ => ?_)
  -- self.reason = reason
  have k23 : ∀ b o, b ≠ e → h₂.get? b = some o → h₃.get? b = some o := fun b o hb z => k₃ b o hb (kp b o z)
  have X₃ : K.In h₃ := kept_but X₂ hnx k23
  have hn₃ : h₃.Ns s.heap.objs.size m := by
    obtain ⟨o, es, ep, e1, r⟩ := hn₂
    exact ⟨o, es, ep, k23 _ _ (Nat.ne_of_gt lt) e1, r⟩
  show _root_.PySem.wpAt _ _ _ (execs (.Assign [.Attribute (.Name "self" r1) "reason" r2] (.Name "reason" r3) r4 :: _) _) _ _ _
  refine ks_wpAt_execs_cons (ks_wpAt_Assign_Attr (wpAt_of_wpAny ?_))
  refine ld hn₃ rfl m1 (ld hn₃ rfl m0 ?_ rfl rfl rfl) rfl rfl rfl
  refine set_plain X₃ (ox := excO C t1) (od := none) ⟨hx₃, rfl, rfl, trivial⟩ T.sa ?_
  refine exc_osa X₃ hx₃ hcl (show refsVE (.ref C :: bm) = true from hbm) rfl T.no1 (fun h₄ tk₄ dx k₄ dn dne hx₄ hn₄ => ?_)
  -- self.names = names
  have X₄ : K.In h₄ := kept_but X₃ hnx k₄
  have hn₅ : h₄.Ns s.heap.objs.size m := by
    obtain ⟨o, es, ep, e1, r⟩ := hn₃
    exact ⟨o, es, ep, k₄ _ _ (Nat.ne_of_gt lt) e1, r⟩
  obtain ⟨oD, _, _, hoD, _, _⟩ := hn₄.count within_if
  show _root_.PySem.wpAt _ _ _ (execs (.Assign [.Attribute (.Name "self" s1) "names" s2] (.Name "names" s3) s4 :: _) _) _ _ _
  refine ks_wpAt_execs_cons (ks_wpAt_Assign_Attr (wpAt_of_wpAny ?_))
  refine ld hn₅ rfl m2 (ld hn₅ rfl m0 ?_ rfl rfl rfl) rfl rfl rfl
  refine set_plain X₄ (od := some oD) ⟨hx₄, rfl, rfl, hoD⟩ T.sa ?_
  refine OEX.osa_old X₄ hx₄ hn₄ within_if (by decide) hcl (show refsVE (.ref C :: bm) = true from hbm) rfl T.no2 (fun h₅ tk₅ k₅ hn₆ => ?_)
  show _root_.PySem.wpAt _ _ _ (execs [] _) _ _ _
  have l3 : s.heap.objs.size < h₃.objs.size := hn₃.lt
  have lx : s.heap.objs.size ≤ dx := Nat.le_of_lt (Nat.lt_of_lt_of_le l3 dn)
  refine wpAt_of_wpAny (wpAny_execs_nil (hq h₅ tk₅ dx t1 ⟨fun b o hb z => k₅ b o (Nat.ne_of_lt (Nat.lt_of_lt_of_le (Heap.lt_size z) lx)) (k₄ b o hb (k23 b o hb (k02 b o z))), k₅ _ _ (Ne.symm dne) hx₄, lx, dne, hn₆⟩))
/-- Refused(reason, names) -/
theorem ref_made (T : RefTxt prog K mg x C fI) {v1 v2 : Value} (X : K.In s.heap) (hG : s.heap.Ns mainGlobals mg) (hB : s.heap.Ns builtinsNs mb) (hbS : mb "super" = some (.type "super")) (hlim : s.heap.NoLimit) (hroom : A.depth + 1 < recursionLimit) {args : Args} (ha : TwoWays [] v1 v2 args)
    (hq : ∀ h' tk e d, OwnMade2 s.heap h' e C d v1 v2 → R (.ok (.ret (.ref e))) { s with heap := h', toks := tk }) :
    codeAny (model prog w) A (.call (.ref C) args) R s := by
  obtain ⟨nm, q, N, bs, bm, sn, sub, ab, col, dd, k0, k1, k2, k3, k5, hC, hbm, _⟩ := T.cls
  obtain ⟨hp, g, dr, tk, os⟩ := s
  obtain ⟨rest, kw⟩ := args
  have ha' : rest.length ≤ [v1, v2].length ∧ (∀ e : Addr, TwoWays [.ref e] v1 v2 ⟨.ref e :: rest, kw⟩) := by
    rcases ha with ha | ha | ha
    · cases ha
      exact ⟨Nat.le_refl _, fun e => .inl rfl⟩
    · cases ha
      exact ⟨Nat.zero_le _, fun e => .inr (.inl rfl)⟩
    · cases ha
      exact ⟨Nat.zero_le _, fun e => .inr (.inr rfl)⟩
  have k : ∀ b o, hp.get? b = some o → ((hp.push (kdv_tup rest)).push (excO C hp.objs.size)).get? b = some o := fun b o e => Heap.get?_push_of_some _ (Heap.get?_push_of_some _ e)
  have hget : ((hp.push (kdv_tup rest)).push (excO C hp.objs.size)).get? (hp.objs.size + 1) = some (excO C hp.objs.size) := by heap_get
  have hnx : K.lookup (hp.objs.size + 1) = none := by
    cases e : K.lookup (hp.objs.size + 1) with
    | none => rfl
    | some o =>
      have z : hp.get? (hp.objs.size + 1) = some o := X _ _ e
      exact absurd (Nat.lt_of_succ_lt (Heap.lt_size z)) (Nat.lt_irrefl _)
  refine own_made (X _ _ hC) hbm (looks_findIn X T.iC) (fun self => bind_fn X self T.tC) (Nat.le_trans ha'.1 (two_size v1 v2)) ?_
  refine ref_init (s := ⟨(hp.push (kdv_tup rest)).push (excO C hp.objs.size), g, dr, tk, os⟩) (mb := mb) T (X.keeps k) (hG.keeps k) (hB.keeps k) hbS (hlim.keeps k) hget hnx ?_ (ha'.2 _) fun h' tk' dx t1 ⟨k', hx, dn, dne, hns⟩ => ?_
  · show A.depth + 1 < recursionLimit
    exact hroom
  · have old : ∀ b o, hp.get? b = some o → h'.get? b = some o := fun b o e => k' b o (Nat.ne_of_lt (Nat.lt_succ_of_lt (Heap.lt_size e))) (k b o e)
    have z : hp.objs.size + 1 + 1 ≤ dx := by
      first
        | (simpa only [Heap.size_push] using dn)
        | exact dn
        | (have q := dn; rw [Heap.size_push, Heap.size_push] at q; exact q)
    exact ⟨rfl, hq h' tk' (hp.objs.size + 1) dx ⟨old, Nat.le_succ _, ⟨_, _, hx, rfl, rfl, rfl, rfl⟩, Nat.le_trans (Nat.le_trans (Nat.le_succ _) (Nat.le_succ _)) z, dne, hns⟩⟩
end
end LadX
end PySem
namespace L2
open PySem PySem.Spec PyProof.Rows
theorem relO_two {v1 v2 : V} {u1 u2 : Value} (r1 : RelV v1 u1) (r2 : RelV v2 u2) (g : Str) : RelO (List.lookup g [(("names" : Str), v2), ("reason", v1)]) (if g = "names" then some u2 else if g = "reason" then some u1 else none) := by
  by_cases h2 : g = "names"
  · rw [if_pos h2, h2]
    exact r2
  · rw [if_neg h2, List.lookup_cons, show (g == ("names" : Str)) = false by simpa using h2]
    exact relO_err r1 g
section
variable {X : Cx} {C fI : Addr} {x : Str}
/-- what stands behind the making of an exception at e with the dict d that holds fs -/
theorem laid_exc {pins : List (Addr × Obj)} {σ : St} {H1 : Hp} {hp h' : Heap} {g : Array GenState} {dr : Drawn} {tk tk' : Nat} {os : OsState} {e d : Addr} {fs : List (Str × V)} {mA : Str → Option Value}
    (I1 : Inv X pins σ H1 ⟨hp, g, dr, tk, os⟩) (keep : ∀ b o, hp.get? b = some o → h'.get? b = some o) (new : hp.objs.size ≤ e) (dbig : hp.objs.size ≤ d) (dne : d ≠ e) (ns : h'.Ns1 d mA) (r : ∀ g, RelO (fs.lookup g) (mA g)) :
    ∃ G', Inv X pins σ (upd H1 d (.xd fs)) ⟨G', g, dr, tk', os⟩ ∧ (∀ b o, G'.get? b = some o → h'.get? b = some o) ∧ G'.get? e = none ∧ (upd H1 d (.xd fs)) e = none := by
  obtain ⟨G', g1, g2⟩ := restrict h' fun b => decide (b ≠ e)
  have gk : ∀ b, b ≠ e → G'.get? b = h'.get? b := fun b hb => g1 b (decide_eq_true hb)
  have ge : G'.get? e = none := g2 e (by simp)
  have old : ∀ b o, hp.get? b = some o → G'.get? b = some o := fun b o q => (gk b (Nat.ne_of_lt (Nat.lt_of_lt_of_le (Heap.lt_size q) new))).trans (keep b o q)
  have ob : ObjOk X.prog X.w (upd H1 d (.xd fs)) G' d (.xd fs) := ⟨_, ns.at (fun o q => (gk d dne).trans q), r⟩
  refine ⟨G', I1.laid (t' := tk') old dbig ob, fun b o q => ?_, ge, ?_⟩
  · by_cases hb : b = e
    · rw [hb, ge] at q; cases q
    · exact (gk b hb).symm.trans q
  · rw [upd_ne (Ne.symm dne)]
    exact I1.hok.fresh new
def tMkRef (C : Addr) (ta : TA) : St → Hp → XK → Prop := fun σ H Q => ta σ H fun vs H1 => ∃ v1 v2, vs = [v1, v2] ∧ ∀ d, H1 d = none → Q (.ref C) (some d) (upd H1 d (.xd [(("names" : Str), v2), ("reason", v1)]))
theorem pmk_ref {a1 a2 : Expr} {ta : TA} {p pos : Pos} {k : Nat} (T : PySem.LadX.RefTxt X.prog X.K X.mg x C fI) (hr : Room k X.A) (ha : PA X [a1, a2] ta) (hg : Gl X x := by rfl) (hdb : (x == ("__debug__" : Str)) = false := by decide)
    (he : starEach (a1 :: [a2]) X.env = (false, eval a1 X.env) :: starEach [a2] X.env := by rfl) (hpl : (backTo pos (starEach [a2] X.env)).any (·.1) = false := by rfl) :
    PMk X (.Call (.Name x p) [a1, a2] [] pos) (tMkRef C ta) := by
  intro pins s σ H Q I h
  refine wpAny_Call_Name_kw (ld_glob I hg T.gC ?_ hdb)
  refine PySem.W.callWith_K (h₀ := X.base) I.ok.mod.kin T.kC (thn (ha.run pos pins s σ H _ I h) fun us s1 hh => ?_) he hpl
  obtain ⟨vs, H1, I1, r1, v1, v2, ev, q1⟩ := hh
  subst ev
  refine ⟨I1.kIn, ?_⟩
  cases r1 with
  | cons rv1 rn =>
    rename_i u1 us'
    cases rn with
    | cons rv2 rn =>
      rename_i u2 us'
      cases rn
      show wpAny _ _ (call (.ref C) [u1, u2]) _ _ _
      have hlim := I1.nolimit
      obtain ⟨mb, hmb, hbb⟩ := I1.ok.mod.blt
      have hG := I1.ok.mod.glob.keeps I1.bk
      have hB := hmb.keeps I1.bk
      have hbS : mb "super" = some (.type "super") := (hbb _ (by decide)).trans (by decide +kernel)
      have kin := I1.kIn
      obtain ⟨hp, g, dr, tk, os⟩ := s1
      refine wpAny_call (PySem.LadX.ref_made T kin hG hB hbS hlim (by have := hr.dp; omega) (.inl rfl) fun h' tk' e d M => ?_)
      show MkP X pins σ Q (.ref e) ⟨h', g, dr, tk', os⟩
      obtain ⟨oe, fv, hoe, hc, hd, hdat, h1⟩ := M.obj
      obtain ⟨G', J, kG, ge, na⟩ := laid_exc (tk' := tk') I1 M.keep M.new M.dbig M.dne M.ns (relO_two rv1 rv2)
      exact ⟨e, oe, fv, ⟨G', g, dr, tk', os⟩, _, .ref C, some d, rfl, J, kG, ge, hoe, ⟨hc, hd⟩, hdat, h1, na, rfl, I1.bare, raises_own T.exC T.tyC, q1 d (I1.hok.fresh M.dbig)⟩
/-- raise Refused(reason, names) -/
def tRaiseRef (C : Addr) (W : WX) (ta : TA) : TS := fun _ σ H => tMkRef C ta σ H fun cls d H' => W cls d σ H'
theorem ps_raiseRef {a1 a2 : Expr} {ta : TA} {W : WX} {p pos pos2 : Pos} {k : Nat} (hc : X.calm = true) (T : PySem.LadX.RefTxt X.prog X.K X.mg x C fI) (hr : Room k X.A) (tk : Takes X W) (ha : PA X [a1, a2] ta) (hg : Gl X x := by rfl) (hdb : (x == ("__debug__" : Str)) = false := by decide)
    (he : starEach (a1 :: [a2]) X.env = (false, eval a1 X.env) :: starEach [a2] X.env := by rfl) (hpl : (backTo pos (starEach [a2] X.env)).any (·.1) = false := by rfl) :
    PS X (.Raise (some (.Call (.Name x p) [a1, a2] [] pos)) none pos2) (tRaiseRef C W ta) := ps_raise hc tk (pmk_ref T hr ha hg hdb he hpl)

/-! ### X(f = e).f: made, read, let go -/
theorem read_new {pins : List (Addr × Obj)} {σ : St} {H1 : Hp} {s1 : Shared} {h' : Heap} {tk' : Nat} {e d : Addr} {f : Str} {fs : List (Str × V)} {mA : Str → Option Value} {v : V} {Q : VK} {oe : Obj} {ex : Bool} (L : ErrLook X.K C) (noN : PySem.W.findIn X.K (.ref C) f = some none)
    (I1 : Inv X pins σ H1 s1) (keep : ∀ b o, s1.heap.get? b = some o → h'.get? b = some o) (hoe : h'.get? e = some oe) (hc : oe.cls = .ref C) (hd : oe.dict = some d) (hf : ∃ vs, oe.data = .fields vs) (ns : h'.Ns1 d mA) (r : ∀ g, RelO (fs.lookup g) (mA g)) (hl : fs.lookup f = some v) (q : Q v H1) :
    wpAny (model X.prog X.w) X.A (getAttr (.ref e) f ex) (EP X pins σ Q) X.xe { s1 with heap := h', toks := tk' } := by
  have J : Inv X pins σ H1 { s1 with heap := h', toks := tk' } := I1.kept (t' := tk') keep
  obtain ⟨od, ho, hlk⟩ := lookIn_ns ns
  obtain ⟨vs, hdat⟩ := hf
  obtain ⟨u, hu, ru⟩ := RelO.some_of (v := v) (o := mA f) (by rw [← hl]; exact r f)
  have At : PySem.W.InstAt h' e oe C (some od) := ⟨hoe, hc, by unfold PySem.W.notCls; rw [hdat] <;> rfl, by rw [hd]; exact ho⟩
  exact HandSPX.exc_get J.kIn At L.ga L.gg L.exC (PySem.W.findObj_own L.hdC noN rfl (by rw [hlk, hu])) (handed_of ru) ⟨v, H1, J.tok _, ru, q⟩
/-- X(f = e).f -/
def tErrF (ta : TE) : TE := fun σ H Q => ta σ H fun x H1 => ∃ v, [x] = [v] ∧ Q v H1
theorem pe_errF {f : Str} {a : Expr} {ta : TE} {p kp pos pos2 : Pos} {k : Nat} (T : PySem.LadX.ErrTxt X.prog X.K X.mg x f C fI) (hr : Room k X.A) (ha : PE X a ta) (hg : Gl X x := by rfl) (hdb : (x == ("__debug__" : Str)) = false := by decide)
    (hb : attributeBase (.Call (.Name x p) [] [⟨some f, a, kp⟩] pos) f X.env (eval (.Call (.Name x p) [] [⟨some f, a, kp⟩] pos) X.env) = eval (.Call (.Name x p) [] [⟨some f, a, kp⟩] pos) X.env := by rfl)
    (hall : (backToKw pos (keywordEach [⟨some f, a, kp⟩] X.env)).all (·.1.isSome) = true := by rfl) (hks : (backToKw pos (keywordEach [⟨some f, a, kp⟩] X.env)).filterMap (·.1) = [f] := by rfl)
    (hpl : ((backTo pos (starEach [] X.env)).any (·.1) || (backToKw pos (keywordEach [⟨some f, a, kp⟩] X.env)).any (·.1.isNone)) = false := by rfl) :
    PE X (.Attribute (.Call (.Name x p) [] [⟨some f, a, kp⟩] pos) f pos2) (tErrF ta) := by
  refine ⟨fun pins s σ H Q I h => ?_⟩
  refine attr_of hb (wpAny_Call_Name_kw (ld_glob I hg T.gC ?_ hdb))
  refine PySem.W.callWith_KW0 (h₀ := X.base) I.ok.mod.kin T.kC hall ?_ hpl
  have hk : PK X [⟨some f, a, kp⟩] (tCons ta tNil) := pk_cons ha pk_nil
  refine thn (hk.run pos pins s σ H (fun vs H1 => ∃ v, vs = [v] ∧ Q v H1) I h) fun ws s1 ⟨vs, H1, I1, r1, v, ev, q1⟩ => ⟨I1.kIn, ?_⟩
  subst ev
  rw [hks]
  cases r1 with
  | cons rv rn =>
    cases rn
    show wpAny _ _ (call (.ref C) [] [(f, _)]) _ _ _
    have hlim := I1.nolimit
    obtain ⟨mb, hmb, hbb⟩ := I1.ok.mod.blt
    have hG := I1.ok.mod.glob.keeps I1.bk
    have hB := hmb.keeps I1.bk
    have hbS : mb "super" = some (.type "super") := (hbb _ (by decide)).trans (by decide +kernel)
    refine wpAny_call (PySem.LadX.err_madeK T I1.kIn hG hB hbS hlim (by have := hr.dp; omega) (.inr rfl) fun h' tk' e d M => ?_)
    obtain ⟨oe, fv, hoe, hc, hd, hdat, h1⟩ := M.obj
    exact read_new T.look T.noN I1 M.keep hoe hc hd ⟨_, hdat⟩ M.ns (relO_err rv) (by simp [List.lookup]) q1
/-- Refused(reason = a, names = b).f, Refused(names = b, reason = a).f -/
def tRefF (b1 b2 : Bool) (t1 t2 : TE) : TE := fun σ H Q => t1 σ H fun x1 H1 => t2 σ H1 fun x2 H2 => ∃ v1 v2, [x1, x2] = (if b1 = true then [v1, v2] else [v2, v1]) ∧ Q (if b2 = true then v1 else v2) H2
theorem pe_refF (b1 b2 : Bool) {a1 a2 : Expr} {t1 t2 : TE} {p kp1 kp2 pos pos2 : Pos} {k : Nat} (T : PySem.LadX.RefTxt X.prog X.K X.mg x C fI) (hr : Room k X.A) (h1 : PE X a1 t1) (h2 : PE X a2 t2) {n1 n2 f : Str} (en : [n1, n2] = (if b1 = true then [("reason" : Str), "names"] else ["names", "reason"])) (ef : f = (if b2 = true then ("reason" : Str) else "names")) (hg : Gl X x := by rfl) (hdb : (x == ("__debug__" : Str)) = false := by decide)
    (hb : attributeBase (.Call (.Name x p) [] [⟨some n1, a1, kp1⟩, ⟨some n2, a2, kp2⟩] pos) f X.env (eval (.Call (.Name x p) [] [⟨some n1, a1, kp1⟩, ⟨some n2, a2, kp2⟩] pos) X.env) = eval (.Call (.Name x p) [] [⟨some n1, a1, kp1⟩, ⟨some n2, a2, kp2⟩] pos) X.env := by rfl)
    (hall : (backToKw pos (keywordEach [⟨some n1, a1, kp1⟩, ⟨some n2, a2, kp2⟩] X.env)).all (·.1.isSome) = true := by rfl) (hks : (backToKw pos (keywordEach [⟨some n1, a1, kp1⟩, ⟨some n2, a2, kp2⟩] X.env)).filterMap (·.1) = [n1, n2] := by rfl)
    (hpl : ((backTo pos (starEach [] X.env)).any (·.1) || (backToKw pos (keywordEach [⟨some n1, a1, kp1⟩, ⟨some n2, a2, kp2⟩] X.env)).any (·.1.isNone)) = false := by rfl) :
    PE X (.Attribute (.Call (.Name x p) [] [⟨some n1, a1, kp1⟩, ⟨some n2, a2, kp2⟩] pos) f pos2) (tRefF b1 b2 t1 t2) := by
  refine ⟨fun pins s σ H Q I h => ?_⟩
  refine attr_of hb (wpAny_Call_Name_kw (ld_glob I hg T.gC ?_ hdb))
  refine PySem.W.callWith_KW0 (h₀ := X.base) I.ok.mod.kin T.kC hall ?_ hpl
  have hk : PK X [⟨some n1, a1, kp1⟩, ⟨some n2, a2, kp2⟩] (tCons t1 (tCons t2 tNil)) := pk_cons h1 (pk_cons h2 pk_nil)
  refine thn (hk.run pos pins s σ H (fun vs H1 => ∃ v1 v2, vs = (if b1 = true then [v1, v2] else [v2, v1]) ∧ Q (if b2 = true then v1 else v2) H1) I h) fun ws s1 ⟨vs, H1, I1, r1, v1, v2, ev, q1⟩ => ⟨I1.kIn, ?_⟩
  rw [hks, en]
  have key : ∃ u1 u2, RelV v1 u1 ∧ RelV v2 u2 ∧ PySem.LadX.TwoWays [] u1 u2 ⟨[], (if b1 = true then [("reason" : Str), "names"] else ["names", "reason"]).zip ws⟩ := by
    subst ev
    cases b1 with
    | true =>
      cases r1 with
      | cons ra rn =>
        cases rn with
        | cons rb rn =>
          cases rn
          exact ⟨_, _, ra, rb, .inr (.inl rfl)⟩
    | false =>
      cases r1 with
      | cons ra rn =>
        cases rn with
        | cons rb rn =>
          cases rn
          exact ⟨_, _, rb, ra, .inr (.inr rfl)⟩
  obtain ⟨u1, u2, rv1, rv2, tw⟩ := key
  have hlim := I1.nolimit
  obtain ⟨mb, hmb, hbb⟩ := I1.ok.mod.blt
  have hG := I1.ok.mod.glob.keeps I1.bk
  have hB := hmb.keeps I1.bk
  have hbS : mb "super" = some (.type "super") := (hbb _ (by decide)).trans (by decide +kernel)
  refine wpAny_call (PySem.LadX.ref_made T I1.kIn hG hB hbS hlim (by have := hr.dp; omega) tw fun h' tk' e d M => ?_)
  obtain ⟨oe, fv, hoe, hc, hd, hdat, h1⟩ := M.obj
  have L : ErrLook X.K C := ⟨T.ga, T.gg, T.exC, T.hdC⟩
  subst ef
  cases b2 with
  | true => exact read_new (f := "reason") L T.no1 I1 M.keep hoe hc hd ⟨_, hdat⟩ M.ns (relO_two rv1 rv2) (by with_unfolding_all rfl) q1
  | false => exact read_new (f := "names") L T.no2 I1 M.keep hoe hc hd ⟨_, hdat⟩ M.ns (relO_two rv1 rv2) (by with_unfolding_all rfl) q1
end
end L2
set_option Elab.async false
set_option linter.all false
set_option maxRecDepth 100000
set_option maxHeartbeats 4000000
/-! An error without fields of its own; isinstance of a caught error; except X of such a class. -/
namespace L2
open PySem PySem.Spec PyProof.Rows
structure NoneTxt (K : PySem.W.Frag) (mg : Str → Option Value) (x : Str) (C : Addr) : Prop where
  gC : mg x = some (.ref C)
  cls : ∃ nm q N bs bm sn sub ab col dd k0 k1 k2 k3 k5, K.lookup C = some (excClassObj nm q C N bs bm true sn sub ab col dd k0 k1 k2 k3 k5 "ValueError.__new__") ∧ PySem.HandSPX.refsVE bm = true
  iC : PySem.W.findIn K (.ref C) "__init__" = some (some (.builtin "ValueError.__init__"))
  kC : PySem.W.keepIn K (.ref C) = true
  exC : PySem.W.subIn K (.ref C) (.type "BaseException") = some true
  tyC : PySem.W.typeIn K (.ref C) = some (.type "type")
section
variable {X : Cx} {C : Addr} {x : Str}
theorem pmk_none {p pos : Pos} (T : NoneTxt X.K X.mg x C) (hg : Gl X x := by rfl) (hdb : (x == ("__debug__" : Str)) = false := by decide) : PMk X (.Call (.Name x p) [] [] pos) (fun σ H Q => Q (.ref C) none H) := by
  intro pins s σ H Q I h
  refine wpAny_Call_Name_kw (ld_glob I hg T.gC ?_ hdb)
  refine PySem.W.callWith_K0 I.kIn T.kC ?_
  show wpAny _ _ (call (.ref C) []) _ _ _
  obtain ⟨nm, q, N, bs, bm, sn, sub, ab, col, dd, k0, k1, k2, k3, k5, hC, hbm⟩ := T.cls
  have kin := I.kIn
  have bare := I.bare
  obtain ⟨hp, g, dr, tk, os⟩ := s
  refine PySem.W.call_B F.excBase_ValueError (fun X => PySem.HandSPX.refsVE_contains X bm hbm) (kin _ _ hC) (PySem.W.looks_findIn kin T.iC) (Nat.zero_le _) (fun h' k he ht => ?_)
  show MkP X pins σ Q (.ref (hp.objs.size + 1)) ⟨h', g, dr, tk, os⟩
  obtain ⟨G', g1, g2⟩ := restrict h' fun b => decide (b ≠ hp.objs.size + 1)
  have gk : ∀ b, b ≠ hp.objs.size + 1 → G'.get? b = h'.get? b := fun b hb => g1 b (decide_eq_true hb)
  have ge : G'.get? (hp.objs.size + 1) = none := g2 _ (by simp)
  have old : ∀ b o, hp.get? b = some o → G'.get? b = some o := fun b o q => (gk b (Nat.ne_of_lt (Nat.lt_succ_of_lt (Heap.lt_size q)))).trans (k b o q)
  have J : Inv X pins σ H ⟨G', g, dr, tk, os⟩ := I.kept (t' := tk) old
  refine ⟨hp.objs.size + 1, _, _, ⟨G', g, dr, tk, os⟩, _, .ref C, none, rfl, J, fun b o q => ?_, ge, he, ⟨rfl, rfl⟩, rfl, rfl, I.hok.fresh (Nat.le_succ _), rfl, bare, raises_own T.exC T.tyC, h⟩
  by_cases hb : b = hp.objs.size + 1
  · have q' : G'.get? b = some o := q
    rw [hb, ge] at q'; cases q'
  · exact (gk b hb).symm.trans q
/-- raise X() -/
theorem ps_raiseNone {W : WX} {p pos pos2 : Pos} (hc : X.calm = true) (T : NoneTxt X.K X.mg x C) (tk : Takes X W) (hg : Gl X x := by rfl) (hdb : (x == ("__debug__" : Str)) = false := by decide) :
    PS X (.Raise (some (.Call (.Name x p) [] [] pos)) none pos2) (fun _ σ H => W (.ref C) none σ H) := ps_raise hc tk (pmk_none T hg hdb)
/-- isinstance(e, c), e the exception that the suite holds -/
def rIsErr (K : PySem.W.Frag) (cls : Value) (d : Option Addr) (a : Addr) : List V → Hp → VK → Prop := fun xs H Q => ∃ (D : Addr) (c : V) (cv : Value) (b : Bool), cls = .ref D ∧ ExcC K D ∧ xs = [.ref a, c] ∧ (∀ u, RelV c u → u = cv) ∧ PySem.W.kitOne K (.ref D) cv = some b ∧ (∀ dd, d = some dd → ∃ fs, H dd = some (.xd fs)) ∧ Q (.bl b) H
theorem call_isErr {a : Addr} {oe : Obj} {cls : Value} {d : Option Addr} {pn : List (Addr × Obj)} (hz : Zc cls d oe) (hf : ∃ vs, oe.data = .fields vs) : CallR (X.suite a ((a, oe) :: pn)) (.builtin "isinstance") (rIsErr X.K cls d a) := by
  intro pins s σ H xs us Q I r h
  obtain ⟨D, c, cv, b, ec, C, rfl, hcv, e, hd, q⟩ := h
  subst ec
  cases r with
  | cons rx rr =>
    cases rr with
    | cons rt rr =>
      cases rr
      cases rx
      have ec := hcv _ rt
      subst ec
      obtain ⟨hget, _⟩ := I.pin (a, oe) (List.mem_append.mpr (.inl List.mem_cons_self))
      obtain ⟨vs, hv⟩ := hf
      have J : ∃ od, PySem.W.InstAt s.heap a oe D od := by
        cases d with
        | none => exact ⟨none, hget, hz.1, by unfold PySem.W.notCls; rw [hv] <;> rfl, by rw [hz.2]; trivial⟩
        | some dd =>
          obtain ⟨fs, hfs⟩ := hd dd rfl
          have hx : ObjOk X.prog X.w H s.heap dd (.xd fs) := I.hok dd _ hfs
          obtain ⟨mA, ⟨od, _, _, ho, _⟩, _⟩ := hx
          exact ⟨some od, hget, hz.1, by unfold PySem.W.notCls; rw [hv] <;> rfl, by rw [hz.2]; exact ho⟩
      obtain ⟨od, J⟩ := J
      exact PySem.W.kia_one (PySem.W.kitx_exc (by obtain ⟨cd, hc, _⟩ := PySem.W.any_some C.hd; rw [hc]; rfl) C.hg C.hk C.hs C.ha C.hn C.ht C.hm) I.kIn J e (fun z => nomatch z) fun tk => ⟨.bl b, H, I.kept (t' := tk) fun _ _ z => z, rfl, q⟩
end
end L2
set_option Elab.async false
set_option linter.all false
set_option maxRecDepth 100000
set_option maxHeartbeats 4000000
/-! Data at any depth: what is told of a value stays told where all that was tracked stays. -/
namespace L2
open PySem PySem.Spec PyProof.Rows
theorem if_f {c : Bool} {A B : Prop} (hc : c = false) (h : B) : if c = true then A else B := by
  rw [if_neg (by rw [hc]; decide)]
  exact h
theorem if_t {c : Bool} {A B : Prop} (hc : c = true) (h : A) : if c = true then A else B := by
  rw [if_pos hc]
  exact h
section
variable {K : PySem.W.Frag} {H H' : Hp}
theorem Same.sqt {a : Addr} {xs : List V} (e : Same H H') (h : SqT K H a xs) : SqT K H' a xs := by
  rcases h with (h | ⟨o, h⟩) | h
  · exact .inl (.inl (e _ _ h))
  · exact .inl (.inr ⟨o, e _ _ h⟩)
  · exact .inr h
mutual
theorem Dp.mono (e : Same H H') : ∀ (d : PyData) (v : V), Dp K H v d → Dp K H' v d
  | .none, _, h => by cases h; exact .non
  | .bool b, _, h => by cases h; exact .bl b
  | .int i, _, h => by cases h; exact .int i
  | .str x, _, h => by cases h; exact .str x
  | .list ds, _, h => by
    cases h with
    | lst s all => exact .lst (e.seq s) (DpAll.mono e ds _ all)
  | .tuple ds, _, h => by
    cases h with
    | tup s all => exact .tup (e.sqt s) (DpAll.mono e ds _ all)
  | .dict _, _, h => by cases h
theorem DpAll.mono (e : Same H H') : ∀ (ds : List PyData) (vs : List V), DpAll K H vs ds → DpAll K H' vs ds
  | [], _, h => by cases h; exact .nil
  | d :: ds, _, h => by
    cases h with
    | cons a b => exact .cons (Dp.mono e d _ a) (DpAll.mono e ds _ b)
end
theorem DpAll.length : ∀ {vs : List V} {ds : List PyData}, DpAll K H vs ds → vs.length = ds.length
  | _, _, .nil => rfl
  | _, _, .cons _ b => by rw [List.length_cons, List.length_cons, DpAll.length b]
theorem DpAll.get : ∀ {vs : List V} {ds : List PyData} {i : Nat} {d : PyData}, DpAll K H vs ds → ds[i]? = some d → ∃ v, vs[i]? = some v ∧ Dp K H v d
  | _, _, i, d, .nil, h => by simp at h
  | _, _, 0, d, .cons (v := v) a b, h => by
    simp at h
    subst h
    exact ⟨v, rfl, a⟩
  | _, _, i + 1, d, .cons (v := v) a b, h => by
    have h' : _ := h
    rw [List.getElem?_cons_succ] at h'
    obtain ⟨u, hu, du⟩ := DpAll.get b h'
    exact ⟨u, by rw [List.getElem?_cons_succ]; exact hu, du⟩
theorem DpAll.of_forall : ∀ {vs : List V} {ds : List PyData}, vs.length = ds.length → (∀ (i : Nat) (v : V) (d : PyData), vs[i]? = some v → ds[i]? = some d → Dp K H v d) → DpAll K H vs ds
  | [], [], _, _ => .nil
  | [], _ :: _, h, _ => by simp at h
  | _ :: _, [], h, _ => by simp at h
  | v :: vs, d :: ds, h, k => .cons (k 0 v d rfl rfl) (DpAll.of_forall (by simpa using h) fun i v d hv hd => k (i + 1) v d (by rw [List.getElem?_cons_succ]; exact hv) (by rw [List.getElem?_cons_succ]; exact hd))
theorem dp_all2 {x y : V} {d e : PyData} (h : Dp K H x d) (g : Dp K H y e) : DpAll K H [x, y] [d, e] := .cons h (.cons g .nil)
theorem dp_ints : ∀ (ns : List Int), DpAll K H (ns.map V.int) (ns.map PyData.int)
  | [] => .nil
  | n :: ns => .cons (.int n) (dp_ints ns)
theorem lay_all : ∀ (ds : List PyData), (∀ d ∈ ds, d.canLay0 = true) → PyData.canLayAll0 ds = true
  | [], _ => by simp [PyData.canLayAll0]
  | d :: ds, h => by simp [PyData.canLayAll0, h d List.mem_cons_self, lay_all ds fun x hx => h x (List.mem_cons_of_mem _ hx)]
theorem all_lay : ∀ {ds : List PyData}, PyData.canLayAll0 ds = true → ∀ d ∈ ds, d.canLay0 = true
  | [], _, d, h => by cases h
  | x :: ds, h, d, hd => by
    simp [PyData.canLayAll0] at h
    rcases List.mem_cons.mp hd with rfl | hd
    · exact h.1
    · exact all_lay h.2 d hd
theorem depth_all : ∀ {ds : List PyData} {d : PyData}, d ∈ ds → d.depth ≤ PyData.depthAll ds
  | x :: ds, d, hd => by
    simp only [PyData.depthAll]
    rcases List.mem_cons.mp hd with rfl | hd
    · exact Nat.le_max_left _ _
    · exact Nat.le_trans (depth_all hd) (Nat.le_max_right _ _)
theorem depthAll_le {n : Nat} : ∀ {ds : List PyData}, (∀ d ∈ ds, d.depth ≤ n) → PyData.depthAll ds ≤ n
  | [], _ => Nat.zero_le _
  | x :: ds, h => by
    simp only [PyData.depthAll]
    exact Nat.max_le.mpr ⟨h x List.mem_cons_self, depthAll_le fun d hd => h d (List.mem_cons_of_mem _ hd)⟩
/-- data without dicts, fewer than n levels, no list above a million -/
def okd : Nat → PyData → Prop
  | 0, _ => False
  | n + 1, .list ds => ds.length ≤ 1000000 ∧ ∀ e ∈ ds, okd n e
  | n + 1, .tuple ds => ds.length ≤ 1000000 ∧ ∀ e ∈ ds, okd n e
  | _ + 1, .dict _ => False
  | _ + 1, .str z => PyData.strOk z = true
  | _ + 1, _ => True
theorem okd_succ : ∀ {n : Nat} {d : PyData}, okd n d → okd (n + 1) d
  | n + 1, .list ds, h => ⟨h.1, fun e he => okd_succ (h.2 e he)⟩
  | n + 1, .tuple ds, h => ⟨h.1, fun e he => okd_succ (h.2 e he)⟩
  | n + 1, .none, _ => trivial
  | n + 1, .bool _, _ => trivial
  | n + 1, .int _, _ => trivial
  | n + 1, .str _, h => h
theorem okd_le {m n : Nat} {d : PyData} (h : okd m d) (l : m ≤ n) : okd n d := by
  induction l with
  | refl => exact h
  | step _ ih => exact okd_succ ih
theorem okd_tup2 {n : Nat} {d e : PyData} (h : okd n d) (g : okd n e) : okd (n + 1) (.tuple [d, e]) := ⟨(by show 2 ≤ 1000000; decide), fun x hx => by
  rcases List.mem_cons.mp hx with rfl | hx
  · exact h
  rcases List.mem_cons.mp hx with rfl | hx
  · exact g
  · cases hx⟩
theorem okd_lay : ∀ {n : Nat} {d : PyData}, okd n d → d.canLay0 = true
  | n + 1, .list ds, h => by
    simp only [PyData.canLay0]
    exact lay_all _ fun e he => okd_lay (h.2 e he)
  | n + 1, .tuple ds, h => by
    simp only [PyData.canLay0]
    exact lay_all _ fun e he => okd_lay (h.2 e he)
  | n + 1, .none, _ => by simp [PyData.canLay0]
  | n + 1, .bool _, _ => by simp [PyData.canLay0]
  | n + 1, .int _, _ => by simp [PyData.canLay0]
  | n + 1, .str _, h => by
    simp only [PyData.canLay0]
    exact h
theorem okd_depth : ∀ {n : Nat} {d : PyData}, okd n d → d.depth ≤ n
  | n + 1, .list ds, h => by
    simp only [PyData.depth]
    have : PyData.depthAll ds ≤ n := depthAll_le fun e he => okd_depth (h.2 e he)
    omega
  | n + 1, .tuple ds, h => by
    simp only [PyData.depth]
    have : PyData.depthAll ds ≤ n := depthAll_le fun e he => okd_depth (h.2 e he)
    omega
  | n + 1, .none, _ => by simp [PyData.depth]
  | n + 1, .bool _, _ => by simp [PyData.depth]
  | n + 1, .int _, _ => by simp [PyData.depth]
  | n + 1, .str _, _ => by simp [PyData.depth]
theorem shaped_mk {d : PyData} (h1 : d.canLay0 = true) (h2 : d.depth ≤ 64) : SeqAt.shaped d = true := by
  show (d.canLay0 && decide (d.depth ≤ 64)) = true
  rw [Bool.and_eq_true]
  exact ⟨h1, decide_eq_true h2⟩
theorem okd_shaped {n : Nat} {d : PyData} (h : okd n d) (hn : n ≤ 64) : SeqAt.shaped d = true := shaped_mk (okd_lay h) (Nat.le_trans (okd_depth h) hn)
theorem shaped_ints (ns : List Int) : SeqAt.shaped (.list (ns.map PyData.int)) = true := by
  refine shaped_mk ?_ ?_
  · show PyData.canLay0 (.list (ns.map PyData.int)) = true
    simp only [PyData.canLay0]
    exact lay_all _ fun d hd => by
      obtain ⟨n, _, rfl⟩ := List.mem_map.mp hd
      simp [PyData.canLay0]
  · simp only [PyData.depth]
    have : PyData.depthAll (ns.map PyData.int) ≤ 0 := depthAll_le fun d hd => by
      obtain ⟨n, _, rfl⟩ := List.mem_map.mp hd
      simp [PyData.depth]
    omega
theorem dp_lay : ∀ (d : PyData) (v : V), Dp K H v d → SeqAt.shaped d = true → PyData.eqv d d = true := fun d v _ s => SeqAt.eqv_refl d (SeqAt.canLay_of_shaped s)
/-- what never changes: tuples, locked things -/
def isImm : HO → Bool
  | .tup _ => true
  | .frz _ _ => true
  | _ => false
/-- all that never changes stands -/
def Imk (H H' : Hp) : Prop := ∀ b o, isImm o = true → H b = some o → H' b = some o
theorem Imk.refl (H : Hp) : Imk H H := fun _ _ _ h => h
theorem Imk.trans {H H1 H2 : Hp} (a : Imk H H1) (b : Imk H1 H2) : Imk H H2 := fun c o i h => b c o i (a c o i h)
theorem Same.kt {H H' : Hp} (e : Same H H') : Imk H H' := fun b o _ h => e b o h
theorem Imk.put {H : Hp} {p : Addr} {o u : HO} (h : H p = some u) (hu : isImm u = false) : Imk H (upd H p o) := fun b v i e => by
  by_cases q : b = p
  · rw [q, h] at e
    cases e
    rw [hu] at i
    cases i
  · rw [upd_ne q]
    exact e
theorem Imk.new {H : Hp} {p : Addr} {o : HO} (h : H p = none) : Imk H (upd H p o) := fun b v i e => by
  rw [upd_ne (ne_of_none e h)]
  exact e
theorem Imk.sqt {H H' : Hp} {a : Addr} {xs : List V} (e : Imk H H') (h : SqT K H a xs) : SqT K H' a xs := by
  rcases h with (h | ⟨o, h⟩) | h
  · exact .inl (.inl (e _ _ rfl h))
  · exact .inl (.inr ⟨o, e _ _ rfl h⟩)
  · exact .inr h
mutual
/-- data without lists -/
def frozen : PyData → Bool
  | .list _ => false
  | .dict _ => false
  | .tuple ds => frozenAll ds
  | _ => true
def frozenAll : List PyData → Bool
  | [] => true
  | d :: ds => frozen d && frozenAll ds
end
mutual
theorem Dp.keep (e : Imk H H') : ∀ (d : PyData) (v : V), frozen d = true → Dp K H v d → Dp K H' v d
  | .none, _, _, h => by cases h; exact .non
  | .bool b, _, _, h => by cases h; exact .bl b
  | .int i, _, _, h => by cases h; exact .int i
  | .str x, _, _, h => by cases h; exact .str x
  | .list _, _, f, _ => by simp [frozen] at f
  | .tuple ds, _, f, h => by
    cases h with
    | tup s all => exact .tup (e.sqt s) (DpAll.keep e ds _ (by simpa [frozen] using f) all)
  | .dict _, _, _, h => by cases h
theorem DpAll.keep (e : Imk H H') : ∀ (ds : List PyData) (vs : List V), frozenAll ds = true → DpAll K H vs ds → DpAll K H' vs ds
  | [], _, _, h => by cases h; exact .nil
  | d :: ds, _, f, h => by
    simp [frozenAll] at f
    cases h with
    | cons a b => exact .cons (Dp.keep e d _ f.1 a) (DpAll.keep e ds _ f.2 b)
end
/-- a list, a tuple: its class -/
theorem tyx_l {a : Addr} {xs : List V} (h : SqL K H a xs) : TyX K H (.ref a) (.type "list") := by
  rcases h with (h | ⟨o, h⟩) | ⟨o, its, n, h, c, _⟩
  · exact .base (.lst h)
  · exact .base (.frz h)
  · exact .kList h c
theorem tyx_t {a : Addr} {xs : List V} (h : SqT K H a xs) : TyX K H (.ref a) (.type "tuple") := by
  rcases h with (h | ⟨o, h⟩) | ⟨o, its, n, h, c, _⟩
  · exact .base (.tup h)
  · exact .fTuple h
  · exact .kTuple h c
def tyName : PyData → String
  | .none => "NoneType" | .bool _ => "bool" | .int _ => "int" | .str _ => "str" | .list _ => "list" | .tuple _ => "tuple" | .dict _ => "dict"
theorem tyx_d {v : V} {d : PyData} (h : Dp K H v d) : TyX K H v (.type (tyName d)) := by
  cases h with
  | non => exact .base .non
  | bl b => exact .base (.bl b)
  | int i => exact .base (.int i)
  | str x => exact .base (.str x)
  | lst s _ => exact tyx_l s
  | tup s _ => exact tyx_t s
def isSeq : PyData → Bool
  | .list _ | .tuple _ => true
  | _ => false
def isLst : PyData → Bool
  | .list _ => true
  | _ => false
def isStr : PyData → Bool
  | .str _ => true
  | _ => false
def isInt : PyData → Bool
  | .int _ | .bool _ => true
  | _ => false
def isBool : PyData → Bool
  | .bool _ => true
  | _ => false
def isTup : PyData → Bool
  | .tuple _ => true
  | _ => false
theorem kit_seq : ∀ d : PyData, PySem.W.kitAny K (.type (tyName d)) [.type "tuple", .type "list"] = some (isSeq d)
  | .none => kitAny_cons (kit_ty (show kitB "NoneType" "tuple" = some false by decide +kernel)) (fun _ => kitAny_cons (kit_ty (show kitB "NoneType" "list" = some false by decide +kernel)) (fun _ => kitAny_nil) fun h => nomatch h) fun h => nomatch h
  | .bool _ => kitAny_cons (kit_ty (show kitB "bool" "tuple" = some false by decide +kernel)) (fun _ => kitAny_cons (kit_ty (show kitB "bool" "list" = some false by decide +kernel)) (fun _ => kitAny_nil) fun h => nomatch h) fun h => nomatch h
  | .int _ => kitAny_cons (kit_ty (show kitB "int" "tuple" = some false by decide +kernel)) (fun _ => kitAny_cons (kit_ty (show kitB "int" "list" = some false by decide +kernel)) (fun _ => kitAny_nil) fun h => nomatch h) fun h => nomatch h
  | .str _ => kitAny_cons (kit_ty (show kitB "str" "tuple" = some false by decide +kernel)) (fun _ => kitAny_cons (kit_ty (show kitB "str" "list" = some false by decide +kernel)) (fun _ => kitAny_nil) fun h => nomatch h) fun h => nomatch h
  | .list _ => kitAny_cons (kit_ty (show kitB "list" "tuple" = some false by decide +kernel)) (fun _ => kitAny_cons (kit_ty (show kitB "list" "list" = some true by decide +kernel)) (fun h => nomatch h) fun _ => rfl) fun h => nomatch h
  | .tuple _ => kitAny_cons (kit_ty (show kitB "tuple" "tuple" = some true by decide +kernel)) (fun h => nomatch h) fun _ => rfl
  | .dict _ => kitAny_cons (kit_ty (show kitB "dict" "tuple" = some false by decide +kernel)) (fun _ => kitAny_cons (kit_ty (show kitB "dict" "list" = some false by decide +kernel)) (fun _ => kitAny_nil) fun h => nomatch h) fun h => nomatch h
theorem kit_lst : ∀ d : PyData, PySem.W.kitOne K (.type (tyName d)) (.type "list") = some (isLst d)
  | .none => kit_ty (show kitB "NoneType" "list" = some false by decide +kernel)
  | .bool _ => kit_ty (show kitB "bool" "list" = some false by decide +kernel)
  | .int _ => kit_ty (show kitB "int" "list" = some false by decide +kernel)
  | .str _ => kit_ty (show kitB "str" "list" = some false by decide +kernel)
  | .list _ => kit_ty (show kitB "list" "list" = some true by decide +kernel)
  | .tuple _ => kit_ty (show kitB "tuple" "list" = some false by decide +kernel)
  | .dict _ => kit_ty (show kitB "dict" "list" = some false by decide +kernel)
theorem kit_str : ∀ d : PyData, PySem.W.kitOne K (.type (tyName d)) (.type "str") = some (isStr d)
  | .none => kit_ty (show kitB "NoneType" "str" = some false by decide +kernel)
  | .bool _ => kit_ty (show kitB "bool" "str" = some false by decide +kernel)
  | .int _ => kit_ty (show kitB "int" "str" = some false by decide +kernel)
  | .str _ => kit_ty (show kitB "str" "str" = some true by decide +kernel)
  | .list _ => kit_ty (show kitB "list" "str" = some false by decide +kernel)
  | .tuple _ => kit_ty (show kitB "tuple" "str" = some false by decide +kernel)
  | .dict _ => kit_ty (show kitB "dict" "str" = some false by decide +kernel)
theorem kit_int : ∀ d : PyData, PySem.W.kitOne K (.type (tyName d)) (.type "int") = some (isInt d)
  | .none => kit_ty (show kitB "NoneType" "int" = some false by decide +kernel)
  | .bool _ => kit_ty (show kitB "bool" "int" = some true by decide +kernel)
  | .int _ => kit_ty (show kitB "int" "int" = some true by decide +kernel)
  | .str _ => kit_ty (show kitB "str" "int" = some false by decide +kernel)
  | .list _ => kit_ty (show kitB "list" "int" = some false by decide +kernel)
  | .tuple _ => kit_ty (show kitB "tuple" "int" = some false by decide +kernel)
  | .dict _ => kit_ty (show kitB "dict" "int" = some false by decide +kernel)
theorem kit_bool : ∀ d : PyData, PySem.W.kitOne K (.type (tyName d)) (.type "bool") = some (isBool d)
  | .none => kit_ty (show kitB "NoneType" "bool" = some false by decide +kernel)
  | .bool _ => kit_ty (show kitB "bool" "bool" = some true by decide +kernel)
  | .int _ => kit_ty (show kitB "int" "bool" = some false by decide +kernel)
  | .str _ => kit_ty (show kitB "str" "bool" = some false by decide +kernel)
  | .list _ => kit_ty (show kitB "list" "bool" = some false by decide +kernel)
  | .tuple _ => kit_ty (show kitB "tuple" "bool" = some false by decide +kernel)
  | .dict _ => kit_ty (show kitB "dict" "bool" = some false by decide +kernel)
theorem kit_tup : ∀ d : PyData, PySem.W.kitOne K (.type (tyName d)) (.type "tuple") = some (isTup d)
  | .none => kit_ty (show kitB "NoneType" "tuple" = some false by decide +kernel)
  | .bool _ => kit_ty (show kitB "bool" "tuple" = some false by decide +kernel)
  | .int _ => kit_ty (show kitB "int" "tuple" = some false by decide +kernel)
  | .str _ => kit_ty (show kitB "str" "tuple" = some false by decide +kernel)
  | .list _ => kit_ty (show kitB "list" "tuple" = some false by decide +kernel)
  | .tuple _ => kit_ty (show kitB "tuple" "tuple" = some true by decide +kernel)
  | .dict _ => kit_ty (show kitB "dict" "tuple" = some false by decide +kernel)
theorem same_new {p : Addr} {o : HO} (h : H p = none) : Same H (upd H p o) := fun b u e => by
  rw [upd_ne (ne_of_none e h)]
  exact e
end
end L2
set_option Elab.async false
set_option linter.all false
set_option maxRecDepth 100000
set_option maxHeartbeats 4000000
/-! Instances of own classes under ==, != and len, by their own __eq__ and __len__, whatever these answer. -/
namespace PySem.W
open PySem PySem.Calls PyProof.Rows
section
variable {prog : Program} {w : World} {A : Around} {E : Value → Shared → Prop} {s : Shared} {K : Frag} {x C L f : Addr} {h₀ : Heap} {m : Str → Option Value} {ox : Obj} {od : Option Obj} {b tb : Value}
theorem ifBound_slot {M : Model} {T : String} {name : Str} {id : String} {args : List Value} {Q : Option Value → Shared → Prop} (S : Slot T name id) (X : K.In s.heap) (I : InstAt s.heap x ox C od) (hs : findIn K (.ref C) name = some (some (.builtin id)))
    (h : wpAny M A (call (.builtin id) (.ref x :: args)) (fun v => Q (some v)) E s) : wpAny M A (callSpecialIfBound? (.ref x) name args) Q E s := by
  simp only [callSpecialIfBound?, bindSpecialIfBound?]
  refine wpAny_holding (wpAny_bind (wpAny_bind (wpAny_bind (I.type.here ((looks_findIn X hs).here ?_)))))
  simp only [S.bind]
  refine wpAny_bind (wpAny_askSetting (wpAny_ite ?_))
  have fin : wpAny M A (call (.builtin id) ([.ref x] ++ args) >>= fun v => pure (some v)) Q E s := wpAny_bind (wpAny_mono h (fun v s' h' => wpAny_pure h') fun _ _ h' => h')
  split
  · exact wpAny_bind (wpAny_pure (wpAny_pure (by exact fin)))
  · exact wpAny_tryCatch (wpAny_bind (wpAny_pure (wpAny_pure (by exact fin))))
/-- a != b of an instance whose class has its own __eq__ and object's __ne__ -/
theorem ne_own {Q : Value → Shared → Prop} (hu : A.units < cLine) (hu1 : A.in1.units < cLine) (X : K.In s.heap) (I : InstAt s.heap x ox C od) (hb : Looks (model prog w) s.heap (typeOf b) tb) (hn : notFirst K C tb = true)
    (hs : findIn K (.ref C) "__eq__" = some (some (.ref f))) (hf : isFn K (.ref f) = true) (hne : findIn K (.ref C) "__ne__" = some (some (.builtin "object.__ne__"))) (hob : mroIn K C (.type "object") = some true)
    (h : wpAny (model prog w) A.in1 (call (.ref f) [.ref x, b]) (fun v s' => ∃ r, v = .bool r ∧ Q (.bool (!r)) s') E s) : wpAny (model prog w) A (richCompare .NotEq (.ref x) b) Q E s := by
  have S := F.cmp_object.ne
  have one : wpAny (model prog w) A (tryCompare (.ref x) (cmpInfo .NotEq).2.1 b) (fun r s' => ∃ v, r = some v ∧ Q v s') E s := by
    show wpAny (model prog w) A (tryCompare (.ref x) "__ne__" b) _ E s
    unfold tryCompare
    have fin : wpAny (model prog w) A (call (.builtin "object.__ne__") [.ref x, b]) (fun v s' => ∃ r, v = .bool r ∧ Q v s') E s := by
      refine wpAny_call (codeAny_call_builtin S.plain F.cmpEntry_ne ?_)
      refine check_slot F.cmpKind_ne F.cmpSplit_ne (I.type.andThen (looks_mroIn X hob)) (F.cmpArgs_ne _ _) ?_
      unfold Builtin.«object.__ne__»
      refine wpAny_bind (wpAny_of_eq (a := ((Value.ref x : Value), [b])) (by first | rfl | (simp only [slotArgs]; rfl)) ?_)
      refine wpAny_bind (wpAny_cRoomFor hu1 ?_)
      refine wpAny_bind (ifBound_K X I hs hf (wpAny_mono h (fun v s' hv => ?_) fun _ _ e => e))
      obtain ⟨r, rfl, q⟩ := hv
      wp_walk
      exact ⟨_, rfl, q⟩
    refine wpAny_bind (ifBound_slot S X I hne (wpAny_mono fin (fun v s' z => ?_) fun _ _ e => e))
    obtain ⟨r, rfl, q⟩ := z
    exact wpAny_pure ⟨_, rfl, q⟩
  unfold richCompare
  simp only [oneThing_ref]
  refine wpAny_holding (wpAny_bind (wpAny_cRoomFor hu ?_))
  refine wpAny_bind (I.type.here (wpAny_bind (hb.here ?_)))
  split
  · rename_i q
    have e : subIn K tb (.ref C) = some false := by
      rcases Bool.or_eq_true_iff.mp hn with e | e
      · rw [beq_iff_eq.mp e] at q; simp at q
      · exact beq_iff_eq.mp e
    refine wpAny_bind ((looks_subIn X e).here ?_)
    simp only [Bool.false_eq_true, if_false]
    refine wpAny_bind (wpAny_mono one (fun r s' z => ?_) fun _ _ e => e)
    obtain ⟨v, rfl, hq⟩ := z
    exact wpAny_pure hq
  · refine wpAny_bind (wpAny_pure ?_)
    simp only [Bool.false_eq_true, if_false]
    refine wpAny_bind (wpAny_mono one (fun r s' z => ?_) fun _ _ e => e)
    obtain ⟨v, rfl, hq⟩ := z
    exact wpAny_pure hq
end
end PySem.W
namespace L2
open PySem PySem.Spec PyProof.Rows
/-- what the class says: == by f -/
structure OwnTy (K : PySem.W.Frag) (C : Addr) : Prop where
  cl : Cls K C
  ha : PySem.W.findIn K (.ref C) "__class__" = some (some (.builtin "object.__class__"))
  hn : PySem.W.specialIn K (.builtin "object.__class__") "__get__" = some (some (.builtin "getset_descriptor.__get__"))
  htk : PySem.W.takesIn K (.builtin "object.__class__") = some true
  hm : PySem.W.mroIn K C (.type "object") = some true
theorem OwnTy.tyx {K : PySem.W.Frag} {C a dx : Addr} {H : Hp} {fs : List (Str × V)} (T : OwnTy K C) (e : H a = some (.ins C dx fs)) : TyX K H (.ref a) (.ref C) := .base (.ins e T.cl T.ha T.hn T.htk T.hm)
structure EqC (K : PySem.W.Frag) (C f : Addr) : Prop where
  hs : PySem.W.findIn K (.ref C) "__eq__" = some (some (.ref f))
  hf : PySem.W.isFn K (.ref f) = true
  hne : PySem.W.findIn K (.ref C) "__ne__" = some (some (.builtin "object.__ne__"))
  hob : PySem.W.mroIn K C (.type "object") = some true
structure LenC (K : PySem.W.Frag) (C f : Addr) : Prop where
  hs : PySem.W.findIn K (.ref C) "__len__" = some (some (.ref f))
  hf : PySem.W.isFn K (.ref f) = true
section
variable {X : Cx} {CX : CXT} {k : Nat} {C f : Addr} {fd : FuncData} {ps : List Str} {sp : Sp} {E : XK}
/-- a def called in an around that has the same frames -/
theorem run_in {A : Around} {pins : List (Addr × Obj)} {σ : St} {H : Hp} {s : Shared} {Q : VK} {us : List Value} {vs : List V} (F : FnOk X.prog X.w X.K X.mg X.base CX k f fd ps sp) (hr : Room k A) (hA : A.frames = X.A.frames) (hb : Binds X.K fd ps []) (hx : Passes CX X E)
    (I : Inv X pins σ H s) (r : Vals vs us) (h : sp vs H Q E) : wpAny (model X.prog X.w) A (call (.ref f) us) (EP X pins σ Q) X.xe s := by
  have e0 : Env0 X.prog X.w X.K X.mg X.base A X.stack s H := by
    have e := I.env0
    exact ⟨by rw [hA]; exact e.frames, e.mod, e.bs, e.bsz, e.funs, e.frf, e.hok, e.bare⟩
  have hl := F.len _ _ _ _ h
  refine wpAny_call (codeAny_mono (F.run A X.stack s H ⟨us, []⟩ us vs _ E hr e0 (by
    have := hb s us I.kIn (by simpa [r.length] using hl)
    simpa using this) r h) fun r s' hq => ?_)
  cases r with
  | error e => exact hx pins σ H s e s' I hq
  | ok fl =>
    cases fl with
    | ret w => exact I.after hq
    | next => exact False.elim hq
    | brk => exact False.elim hq
    | cont => exact False.elim hq
/-- an instance of C on the left of == or != -/
def rOwn (K : PySem.W.Frag) (C : Addr) (sp : Sp) (E : XK) (neg : Bool) : R2 := fun x y H Q => ∃ a dx fs ty, x = .ref a ∧ H a = some (.ins C dx fs) ∧ TyX K H y ty ∧ PySem.W.notFirst K C ty = true ∧ sp [x, y] H (fun v H' => ∃ b, v = .bl b ∧ Q (.bl (if neg = true then !b else b)) H') E
theorem op_eqOwn (T : EqC X.K C f) (F : FnOk X.prog X.w X.K X.mg X.base CX k f fd ps sp) (hr : Room k X.A) (hb : Binds X.K fd ps []) (hx : Passes CX X E) : OpR X (compareOp .Eq) (rOwn X.K C sp E false) := by
  intro pins s σ H x y v u Q I rx ry h
  obtain ⟨a, dx, fs, ty, rfl, ha, ht, hn, h⟩ := h
  cases rx
  obtain ⟨mA, J, _⟩ := ins_get I.hok ha
  obtain ⟨od, J, _⟩ := J.look
  obtain ⟨m, hF⟩ := I.fr
  obtain ⟨P, Z, p, _⟩ := kit_of I ry ht
  show wpAny (model X.prog X.w) X.A (richCompare .Eq (.ref a) u) (EP X pins σ Q) X.xe s
  refine PySem.W.cmp_K (op := .Eq) (tb := ty) hr.units0 hF I.ok.mod.kin J (Z.ty _ _ I.kIn p) hn T.hs T.hf ?_
  refine wpAny_mono (run_in F hr rfl hb hx I (.cons (show RelV (.ref a) (.ref a) from rfl) (.cons ry .nil)) h) (fun r s' z => ?_) fun _ _ e => e
  obtain ⟨v, H', I', rv, b, ev, q⟩ := z
  subst ev
  cases rv
  exact ⟨.bl b, H', I', rfl, q⟩
theorem op_neOwn (T : EqC X.K C f) (F : FnOk X.prog X.w X.K X.mg X.base CX k f fd ps sp) (hr : Room (k + 1) X.A) (hb : Binds X.K fd ps []) (hx : Passes CX X E) : OpR X (compareOp .NotEq) (rOwn X.K C sp E true) := by
  intro pins s σ H x y v u Q I rx ry h
  obtain ⟨a, dx, fs, ty, rfl, ha, ht, hn, h⟩ := h
  cases rx
  obtain ⟨mA, J, _⟩ := ins_get I.hok ha
  obtain ⟨od, J, _⟩ := J.look
  obtain ⟨P, Z, p, _⟩ := kit_of I ry ht
  show wpAny (model X.prog X.w) X.A (richCompare .NotEq (.ref a) u) (EP X pins σ Q) X.xe s
  refine PySem.W.ne_own (tb := ty) hr.units0 hr.in1.units0 I.kIn J (Z.ty _ _ I.kIn p) hn T.hs T.hf T.hne T.hob ?_
  refine wpAny_mono (run_in F hr.in1 rfl hb hx I (.cons (show RelV (.ref a) (.ref a) from rfl) (.cons ry .nil)) h) (fun r s' z => ?_) fun _ _ e => e
  obtain ⟨v, H', I', rv, b, ev, q⟩ := z
  subst ev
  cases rv
  exact ⟨b, rfl, .bl (!b), H', I', rfl, q⟩
/-- len(o), o an instance of C -/
def rLenOwn (C : Addr) (sp : Sp) (E : XK) : List V → Hp → VK → Prop := fun xs H Q => ∃ a dx fs, xs = [.ref a] ∧ H a = some (.ins C dx fs) ∧ sp xs H (fun v H' => ∃ n : Int, v = .int n ∧ (0 ≤ n ∧ n < 2 ^ 63) ∧ Q (.int n) H') E
theorem call_lenOwn (T : LenC X.K C f) (F : FnOk X.prog X.w X.K X.mg X.base CX k f fd ps sp) (hr : Room (k + 1) X.A) (hb : Binds X.K fd ps []) (hx : Passes CX X E) : CallR X (.builtin "len") (rLenOwn C sp E) := by
  intro pins s σ H xs us Q I r h
  obtain ⟨a, dx, fs, rfl, ha, h⟩ := h
  obtain ⟨u, rfl, rx⟩ := vals1 r
  cases rx
  obtain ⟨mA, J, _⟩ := ins_get I.hok ha
  obtain ⟨od, J, _⟩ := J.look
  obtain ⟨m, hF⟩ := I.fr
  refine PySem.W.len_K hF I.ok.mod.kin J T.hs T.hf ?_
  refine wpAny_mono (run_in F hr.in1 rfl hb hx I (.cons (show RelV (.ref a) (.ref a) from rfl) .nil) h) (fun r s' z => ?_) fun _ _ e => e
  obtain ⟨v, H', I', rv, n, ev, hn, q⟩ := z
  subst ev
  obtain ⟨t, rfl⟩ := rv
  exact ⟨hn, .int n, H', I'.tok _, ⟨_, rfl⟩, q⟩
end
end L2
set_option Elab.async false
set_option linter.all false
set_option maxRecDepth 100000
set_option maxHeartbeats 4000000
/-! for i, c in enumerate(a text). -/
namespace L2
open PySem PySem.Spec PyProof.Rows
def Ites (x : Str) : It :=
  ⟨fun i _ => i < x.cps.size, fun i H v H' => ∃ T c, v = .ref T ∧ H T = none ∧ H' = upd H T (.tup [.int (i : Nat), .str ⟨#[c]⟩]) ∧ x.cps[i]? = some c, fun i _ => i = x.cps.size⟩
theorem str_draws {prog : Program} {w : World} {A : Around} (hh : A.handled = none) (it : Addr) (x : Str) (t : Tok) :
    Draws prog w A it [it] x.cps.size (fun i v => ∃ c u, x.cps[i]? = some c ∧ v = .str ⟨#[c]⟩ u) (fun i h => h.IsStrIter it (strIterType x) x t i) := by
  unfold strIterType
  split
  · exact Draws.strAscii hh it x t
  · exact Draws.strWide hh it x t
theorem turn_enumS {P : Program} {w : World} {K : PySem.W.Frag} {elts : List Expr} {kk : Nat} {tpos : Pos} (x : Str) (t : Tok) (e it : Addr) :
    Turn P w K (.Tuple elts kk tpos) (Ites x) [e, it] e (fun i h => (∃ old, IsEnum h e it ((i : Nat) : Int) old) ∧ h.IsStrIter it (strIterType x) x t i ∧ e ≠ it) where
  mem := by simp
  obj := fun i h st b hb => by
    obtain ⟨⟨old, he⟩, ⟨o, ho, hc, hd⟩, _⟩ := st
    rcases (by simpa using hb : b = e ∨ b = it) with z | z
    · rw [z]; exact ⟨_, he, fun v q => nomatch q⟩
    · rw [z]; exact ⟨o, ho, fun v q => by rw [hd] at q; cases q⟩
  keep := fun i h h' st k => let ⟨⟨old, he⟩, hi, hne⟩ := st; ⟨⟨old, k e (by simp) _ he⟩, let ⟨o, ho, r⟩ := hi; ⟨o, k it (by simp) o ho, r⟩, hne⟩
  item := by
    intro X hP hw hK hc i pins s σ H E I hf st hg
    subst hP hw hK
    obtain ⟨⟨old, he⟩, hit, hne⟩ := st
    have hel : e < s.heap.objs.size := Heap.lt_size he
    have hil : it < s.heap.objs.size := by obtain ⟨_, q, _⟩ := hit; exact Heap.lt_size q
    refine wpAny_pyNext_enum_itemD (str_draws (prog := X.prog) (w := X.w) (A := X.A.in1) (I.ok.hd hc) it x t) he hit hg hne (by simpa using hne) fun v h' tk hx ho hit' hT hsz hk => ?_
    obtain ⟨c, u, hcx, rfl⟩ := hx
    refine ⟨_, rfl, wpAny_letOwnedTupleGo_enum (s := { s with heap := h', toks := tk + 1 }) ho fun h'' he' sb => ?_⟩
    have hT2 : h''.get? s.heap.objs.size = some { cls := .type "tuple", data := .seq #[.int i tk, .str ⟨#[c]⟩ u] } := (sb.2 _ (Nat.ne_of_gt hel)).trans hT
    have new : ObjOk X.prog X.w (upd H s.heap.objs.size (.tup [.int (i : Nat), .str ⟨#[c]⟩])) h'' s.heap.objs.size (.tup [.int (i : Nat), .str ⟨#[c]⟩]) :=
      ⟨by show 2 ≤ sizeLine; decide, [.int i tk, .str ⟨#[c]⟩ u], .cons ⟨_, rfl⟩ (.cons ⟨_, rfl⟩ .nil), ⟨_, hT2, rfl, _, rfl⟩⟩
    have I1 : Inv X pins σ (upd H s.heap.objs.size (.tup [.int (i : Nat), .str ⟨#[c]⟩])) { s with heap := h'', toks := tk + 1 } :=
      I.turnedNew (ch := [e, it]) (fun b ob hb q => (sb.2 b (fun z => hb (by simp [z]))).trans (hk b ob (fun z => hb (by simp [z])) (fun z => hb (by simp [z])) q)) hf (Nat.le_refl _) new
    refine ⟨.ref s.heap.objs.size, _, I1, rfl, ⟨_, c, rfl, I.hok.fresh (Nat.le_refl _), rfl, hcx⟩, ⟨⟨.str ⟨#[c]⟩ u, ?_⟩, ?_, hne⟩, fun b hb => ?_⟩
    · have e1 : ((i + 1 : Nat) : Int) = (i : Int) + 1 := by omega
      rw [e1]; exact he'
    · obtain ⟨o, ho2, r⟩ := hit'
      exact ⟨o, (sb.2 it (Ne.symm hne)).trans ho2, r⟩
    · have hb' : b < s.heap.objs.size := by
        rcases (by simpa using hb : b = e ∨ b = it) with z | z
        · rw [z]; exact hel
        · rw [z]; exact hil
      rw [upd_ne (Nat.ne_of_lt hb')]
      exact (hf b hb).1
  done := by
    intro X hP hw hK hc i pins s σ H E I hf st hg
    subst hP hw hK
    obtain ⟨⟨old, he⟩, hit, hne⟩ := st
    obtain ⟨f0, f1, f2, f3, f4, f5⟩ := hf it (by simp)
    have hg' : i = x.cps.size := hg
    subst hg'
    exact wpAny_pyNext_enum_endD (str_draws (prog := X.prog) (w := X.w) (A := X.A.in1) (I.ok.hd hc) it x t) he hit fun h' eb => ⟨rfl, I.turned (t' := s.toks) (fun b o hb q => eb b o hb q) f0 f1 f3 f4 f5⟩
  self := fun A i s Q E st h => let ⟨⟨_, he⟩, _⟩ := st; wpAny_pyIter_enum he h
def iEnumS (ta : TA) : TI := fun σ H R => ta σ H fun vs H1 => ∃ x, vs = [.str x] ∧ R (Ites x) H1
theorem pi_enumS {X : Cx} {e : Expr} {ta : TA} {p pos tpos : Pos} {elts : List Expr} {kk : Nat} (hg : Gl X "enumerate") (hm : X.mg "enumerate" = none) (ha : PA X [e] ta) (hs : starEach [e] X.env = [(false, eval e X.env)] := by rfl) :
    PI X (.Tuple elts kk tpos) (.Call (.Name "enumerate" p) [e] [] pos) (iEnumS ta) := by
  refine ⟨fun pins s σ H R I h => ?_⟩
  refine Call_ (ld_blt I hg hm boot_enumerate (PyProof.Rows.callWith_type1 (thn (ha.run pos pins s σ H _ I h) fun us s1 ⟨vs, H1, I1, r1, q1⟩ => ?_) hs rfl))
  obtain ⟨x, ex, q⟩ := q1
  subst ex
  cases r1 with
  | cons r rr =>
    cases rr
    obtain ⟨t, rfl⟩ := r
    refine call_enumerate_str fun h' he hit hsz hk => wpAny_pyIter_enum he ?_
    have I2 : Inv X pins σ H1 { s1 with heap := h' } := I1.kept (t' := s1.toks) hk
    refine ⟨s1.heap.objs.size + 1, [s1.heap.objs.size + 1, s1.heap.objs.size], _, _, H1, rfl, I2, turn_enumS x t (s1.heap.objs.size + 1) s1.heap.objs.size, ⟨⟨.none, he⟩, hit, Nat.succ_ne_self _⟩, fun b hb => ?_, q⟩
    have hle : s1.heap.objs.size ≤ b := by
      rcases (by simpa using hb : b = s1.heap.objs.size + 1 ∨ b = s1.heap.objs.size) with z | z
      · rw [z]; exact Nat.le_add_right _ _
      · rw [z]; exact Nat.le_refl _
    exact I1.fpOk hle (I1.hok.fresh hle)
/-- for i, c in enumerate(x) -/
theorem for_enumS {x : Str} {g : TG} {tb : TS} {D : Ends} {σ : St} {H : Hp} (Pv : Nat → St → Hp → Prop) (h0 : Pv 0 σ H)
    (hs : ∀ i c T σ H, x.cps[i]? = some c → Pv i σ H → H T = none → g (.ref T) σ (upd H T (.tup [.int (i : Nat), .str ⟨#[c]⟩])) fun σ2 H2 => tb { D with nx := Pv (i + 1), ct := Pv (i + 1), bk := D.nx } σ2 H2) (hd : ∀ σ H, Pv x.cps.size σ H → D.nx σ H) :
    ∃ W : Nat → Nat → St → Hp → Prop, (∃ m, W 0 m σ H) ∧ ∀ i m σ H, W i m σ H →
      ((Ites x).stop i H ∧ D.nx σ H) ∨ ((Ites x).go i H ∧ ∃ N : St → Hp → Prop, (∀ σ' H', N σ' H' → ∃ m', m' < m ∧ W (i + 1) m' σ' H') ∧ ∀ y H', (Ites x).yld i H y H' → g y σ H' fun σ2 H2 => tb { D with nx := N, ct := N, bk := D.nx } σ2 H2) := by
  refine ⟨fun i m σ H => m = x.cps.size - i ∧ i ≤ x.cps.size ∧ Pv i σ H, ⟨x.cps.size, by simp, Nat.zero_le _, h0⟩, ?_⟩
  rintro i m σ H ⟨rfl, hi, p⟩
  by_cases hlt : i < x.cps.size
  · refine .inr ⟨hlt, Pv (i + 1), fun σ' H' p' => ⟨x.cps.size - (i + 1), by omega, rfl, hlt, p'⟩, fun y H' yl => ?_⟩
    obtain ⟨T, c, rfl, hT, rfl, hc⟩ := yl
    exact hs i c T σ H hc p hT
  · have e : i = x.cps.size := by omega
    subst e
    exact .inl ⟨rfl, hd σ H p⟩
end L2
set_option Elab.async false
set_option linter.all false
set_option maxRecDepth 100000
set_option maxHeartbeats 4000000
/-! The text by places. -/
namespace LW
open PySem L2
def top (i : Nat) : Stmt := PySem.Challenge.pw_scanladder_k11_whole_archives.main.body.getD i (.Pass ⟨0, 0, 0, 0⟩)
abbrev s_BadNote___init__ : Stmt := inClass (top 2) 0
abbrev s_TooMany___init__ : Stmt := inClass (top 3) 0
abbrev s_is_whole : Stmt := top 8
abbrev s_is_name : Stmt := top 9
abbrev s_figure : Stmt := top 13
abbrev s_word_of : Stmt := top 14
abbrev s_line_of : Stmt := top 15
abbrev s_is_writable : Stmt := top 16
abbrev s_number_in : Stmt := top 17
abbrev s_part_in : Stmt := top 18
abbrev s_words_in : Stmt := top 19
abbrev s_event_in : Stmt := top 20
abbrev s_Archive___init__ : Stmt := inClass (top 21) 0
abbrev s_Archive___len__ : Stmt := inClass (top 21) 1
abbrev s_Archive___eq__ : Stmt := inClass (top 21) 2
abbrev s_Archive_events : Stmt := inClass (top 21) 3
abbrev s_Archive_with_event : Stmt := inClass (top 21) 4
abbrev s_Archive_text : Stmt := inClass (top 21) 5
abbrev s_Archive_chain : Stmt := inClass (top 21) 6
abbrev s_Archive_first_unlike : Stmt := inClass (top 21) 7
abbrev s_read_text : Stmt := top 22
abbrev s_kept_lines : Stmt := top 23
abbrev s__law_taken : Stmt := top 25
abbrev s__law_pick : Stmt := top 26
abbrev s__law_alike : Stmt := top 27
abbrev s__law_name : Stmt := top 28
abbrev s__law_shuffled : Stmt := top 29
abbrev s__law_feed : Stmt := top 30
abbrev s__law_part : Stmt := top 31
abbrev s__law_word : Stmt := top 32
abbrev s__law_figure : Stmt := top 33
abbrev s__law_refused : Stmt := top 34
abbrev s_law : Stmt := top 35
abbrev sTaken : Stmt := s__law_taken
abbrev sPick : Stmt := s__law_pick
abbrev sAlike : Stmt := s__law_alike
end LW
set_option Elab.async false
set_option linter.all false
set_option maxRecDepth 100000
set_option maxHeartbeats 4000000
/-! The draws: _law_taken, _law_pick. -/
namespace LW
open PySem L2
/-- the draws' row at r: the script at a, then three ints -/
def RowI (K : PySem.W.Frag) (a r : Addr) (H : Hp) : Prop := ∃ (i s c : Int), H r = some (.lst [.ref a, .int i, .int s, .int c]) ∧ 0 ≤ i ∧ 0 ≤ c ∧ ∃ ns : List Int, SqL K H a (ns.map V.int)
/-- all but what stands at r is as it was -/
def But (r : Addr) (H H' : Hp) : Prop := ∀ b, b ≠ r → H' b = H b
def spTaken (K : PySem.W.Frag) : Sp := fun vs H Q _ => ∃ (a r : Addr) (m : Int), vs = [.ref r, .int m] ∧ RowI K a r H ∧ 0 < m ∧ m < 1073741824 ∧
  ∀ (k : Int) (H' : Hp), 0 ≤ k → k < m → But r H H' → RowI K a r H' → Q (.int k) H'
def spPick (K : PySem.W.Frag) : Sp := fun vs H Q _ => ∃ (a r p : Addr) (xs : List V), vs = [.ref r, .ref p] ∧ RowI K a r H ∧ H p = some (.lst xs) ∧ p ≠ r ∧ 0 < xs.length ∧ xs.length < 1073741824 ∧
  ∀ (v : V) (H' : Hp), v ∈ xs → But r H H' → RowI K a r H' → Q v H'
structure TxtD (K : PySem.W.Frag) (mg : Str → Option Value) (fT : Addr) : Prop where
  int : mg "int" = none
  len : mg "len" = none
  gT : mg "_law_taken" = some (.ref fT)
  kT : PySem.W.keepIn K (.ref fT) = true
theorem But.sql {K : PySem.W.Frag} {r a : Addr} {H H' : Hp} {ns : List Int} {rest : List V} (b : But r H H') (hr : H r = some (.lst (.ref a :: rest))) (h : SqL K H a (ns.map V.int)) : SqL K H' a (ns.map V.int) := by
  rcases h with (h | ⟨o, h⟩) | h
  · have n : a ≠ r := fun z => by
      rw [z, hr] at h
      cases ns with
      | nil => cases h
      | cons n ns => cases h
    exact .inl (.inl ((b a n).trans h))
  · have n : a ≠ r := fun z => by
      rw [z, hr] at h
      cases h
    exact .inl (.inr ⟨o, (b a n).trans h⟩)
  · exact .inr h
theorem But.kt {r : Addr} {H H' : Hp} {u : HO} (b : But r H H') (h : H r = some u) (hu : isImm u = false) : Imk H H' := fun c o i e => by
  have n : c ≠ r := fun z => by
    rw [z, h] at e
    cases e
    rw [hu] at i
    cases i
  exact (b c n).trans e
theorem But.keep {r : Addr} {H H' : Hp} (b : But r H H') {c : Addr} {o : HO} (n : c ≠ r) (h : H c = some o) : H' c = some o := (b c n).trans h
theorem RowI.same {K : PySem.W.Frag} {a r : Addr} {H H' : Hp} (h : RowI K a r H) (e : Same H H') : RowI K a r H' := by
  obtain ⟨i, s, c, h1, h2, h3, ns, h4⟩ := h
  exact ⟨i, s, c, e _ _ h1, h2, h3, ns, e.seq h4⟩
theorem RowI.some {K : PySem.W.Frag} {a r : Addr} {H : Hp} (h : RowI K a r H) : ∃ xs, H r = some (.lst xs) := by
  obtain ⟨i, s, c, h1, _⟩ := h
  exact ⟨_, h1⟩
theorem But.ktR {K : PySem.W.Frag} {a r : Addr} {H H' : Hp} (b : But r H H') (h : RowI K a r H) : Imk H H' := by
  obtain ⟨xs, hx⟩ := h.some
  exact b.kt hx rfl
theorem but_upd {r : Addr} {H : Hp} {o : HO} : But r H (upd H r o) := fun b hb => upd_ne hb
theorem but_upd2 {r : Addr} {H H' : Hp} {o : HO} (h : But r H H') : But r H (upd H' r o) := fun b hb => (upd_ne hb).trans (h b hb)
theorem But.refl {r : Addr} {H : Hp} : But r H H := fun _ _ => rfl
section
variable {P : Program} {w : World} {K : PySem.W.Frag} {mg : Str → Option Value} {base : Heap}
theorem scT : FnScope ["row", "many", "found", "cell"] ["row", "many"] (defScope sTaken) := ⟨rfl, rfl, rfl, by decide +kernel, rfl, by decide +kernel, by decide +kernel⟩
theorem ok_taken {f fT : Addr} {fd : FuncData} (F : Fun K "_law_taken" "_law_taken" sTaken f fd) (T : TxtD K mg fT) : FnOk P w K mg base CX0 1 f fd ["row", "many"] (spTaken K) := by
  refine F.ok scT (fun vs H Q E h => ?_) (fun cdv A outer s H vs Q E hr h => ?_)
  · obtain ⟨a, r, m, rfl, _⟩ := h
    rfl
  · obtain ⟨a, r, m, rfl, ⟨i, sd, c, hrow, hi, hc, ns, hS⟩, m0, m1, k⟩ := h
    have cm : CDiv 0 m := ⟨m0, m1⟩
    refine ⟨_, pss_cons (ps_if (pt_cmpR op_gt (pe_ix ix_list (pv 0) pe_int (fun _ _ => rfl)) pe_int (nomark _))
        (pss_cons (ps_set (i := 2) scT.nd rfl (.inl rfl) (pe_op op_mod (pe_callTy call_int1 (by rfl) T.int (by decide +kernel) (pa_cons (pe_ix ix_list (pv 0) pe_int (fun _ _ => rfl)) pa_nil)) (pv 1)))
        (pss_cons (ps_asg (pe_op op_fdiv (pe_ix ix_list (pv 0) pe_int (fun _ _ => rfl)) (pv 1)) (pg_sub (pv 0) pe_int set_list))
        (pss_one (ps_ret (pv 2))))) pss_nil)
      (pss_cons (ps_asg (pe_op op_add (pe_ix ix_list (pv 0) pe_int (fun _ _ => rfl)) pe_int) (pg_sub (pv 0) pe_int set_list))
      (pss_cons (ps_if (pt_cmpR op_gt (pe_ix ix_list (pv 0) pe_int (fun _ _ => rfl)) (pe_callB call_len_seq (by rfl) T.len PySem.boot_len (pa_cons (pe_ix ix_list (pv 0) pe_int (fun _ _ => rfl)) pa_nil)) (nomark _))
        (pss_cons (ps_asg (pe_op op_mod (pe_callTy call_int1 (by rfl) T.int (by decide +kernel) (pa_cons (pe_op op_add (pe_op op_mul (pe_ix ix_list (pv 0) pe_int (fun _ _ => rfl)) pe_int) pe_int) pa_nil)) pe_int) (pg_sub (pv 0) pe_int set_list))
        (pss_one (ps_ret (pe_op op_mod (pe_callTy call_int1 (by rfl) T.int (by decide +kernel) (pa_cons (pe_op op_fdiv (pe_ix ix_list (pv 0) pe_int (fun _ _ => rfl)) pe_int) pa_nil)) (pv 1))))) pss_nil)
      (pss_cons (ps_set (i := 3) scT.nd rfl (.inl rfl) (pe_ix ix_list (pe_ix ix_list (pv 0) pe_int (fun _ _ => rfl)) (pe_op op_sub (pe_ix ix_list (pv 0) pe_int (fun _ _ => rfl)) pe_int) (fun _ _ => rfl)))
      (pss_cons (ps_asg (pe_op op_mod (pe_callTy call_int1 (by rfl) T.int (by decide +kernel) (pa_cons (pe_op op_add (pe_op op_add (pe_op op_mul (pe_ix ix_list (pv 0) pe_int (fun _ _ => rfl)) pe_int) (pv 3)) pe_int) pa_nil)) pe_int) (pg_sub (pv 0) pe_int set_list))
      (pss_cons (ps_if (pt_cmpR op_ge (pv 3) (pe_op op_pow pe_int pe_int) (nomark _))
        (pss_one (ps_asg (pe_op op_fdiv (pv 3) (pv 1)) (pg_sub (pv 0) pe_int set_list))) pss_nil)
      (pss_one (ps_ret (pe_op op_mod (pe_callTy call_int1 (by rfl) T.int (by decide +kernel) (pa_cons (pv 3) pa_nil)) (pv 1))))))))), ?_⟩
    refine ⟨_, rfl, r, _, _, _, rfl, rfl, SqL.of hrow, rfl, _, _, rfl, rfl, _, rfl, ?_⟩
    refine ite2 (fun h0 => ?_) (fun h0 => ?_)
    · refine ⟨_, rfl, r, _, _, _, rfl, rfl, SqL.of hrow, rfl, .inl ⟨_, rfl, _, rfl, _, _, rfl, rfl, m0, ?_⟩⟩
      refine ⟨_, rfl, r, _, _, _, rfl, rfl, SqL.of hrow, rfl, _, rfl, _, _, rfl, rfl, cm, ?_⟩
      refine ⟨_, rfl, r, _, _, _, rfl, rfl, hrow, rfl, ?_⟩
      refine ⟨_, rfl, k _ _ (Int.emod_nonneg _ (Int.ne_of_gt m0)) (Int.emod_lt_of_pos _ m0) but_upd ⟨i, sd, c / m, upd_same, hi, Int.ediv_nonneg hc (Int.le_of_lt m0), ns, but_upd.sql hrow hS⟩⟩
    · refine ⟨_, rfl, r, _, _, _, rfl, rfl, SqL.of hrow, rfl, _, _, rfl, rfl, ?_⟩
      refine ⟨_, rfl, r, _, _, _, rfl, rfl, hrow, rfl, ?_⟩
      have b1 : But r H (upd H r (.lst [.ref a, .int (i + 1), .int sd, .int c])) := but_upd
      refine ⟨_, rfl, r, _, _, _, rfl, rfl, SqL.of upd_same, rfl, ?_⟩
      refine ⟨_, rfl, r, _, _, _, rfl, rfl, SqL.of upd_same, rfl, ?_⟩
      refine ⟨a, _, rfl, .inl (b1.sql hrow hS), _, _, rfl, rfl, _, rfl, ?_⟩
      refine ite2 (fun h1 => ?_) (fun h1 => ?_)
      · refine ⟨_, rfl, r, _, _, _, rfl, rfl, SqL.of upd_same, rfl, _, _, rfl, rfl, .inr (by decide), _, _, rfl, rfl, .inl ⟨_, rfl, _, _, rfl, rfl, (by show (0 : Int) < 2147483647; decide), ?_⟩⟩
        refine ⟨_, rfl, r, _, _, _, rfl, rfl, upd_same, rfl, ?_⟩
        refine ⟨_, rfl, r, _, _, _, rfl, rfl, SqL.of upd_same, rfl, _, _, rfl, rfl, (by show CDiv _ 7; exact ⟨by decide, by decide⟩), .inl ⟨_, rfl, _, rfl, _, _, rfl, rfl, m0, ?_⟩⟩
        exact k _ _ (Int.emod_nonneg _ (Int.ne_of_gt m0)) (Int.emod_lt_of_pos _ m0) (but_upd2 b1) ⟨i + 1, _, c, upd_same, by omega, hc, ns, (but_upd2 b1).sql hrow hS⟩
      · have h1' : ¬ ((ns.map V.int).length : Int) < i + 1 := by
          intro z
          exact h1 (decide_eq_true z)
        have hlt : i.toNat < ns.length := by
          rw [List.length_map] at h1'
          omega
        have cell : atI (ns.map V.int) (i + 1 - 1) = some (V.int (ns[i.toNat])) := by
          have e : i + 1 - 1 = ((i.toNat : Nat) : Int) := by omega
          rw [e]
          exact atI_nat (by rw [List.getElem?_map, List.getElem?_eq_getElem hlt]; rfl)
        refine ⟨_, rfl, r, _, _, _, rfl, rfl, SqL.of upd_same, rfl, ?_⟩
        refine ⟨_, rfl, r, _, _, _, rfl, rfl, SqL.of upd_same, rfl, _, _, rfl, rfl, a, _, _, _, rfl, rfl, b1.sql hrow hS, cell, ?_⟩
        generalize ns[i.toNat] = z
        refine ⟨_, rfl, r, _, _, _, rfl, rfl, SqL.of upd_same, rfl, _, _, rfl, rfl, .inr (by decide), _, rfl, _, _, rfl, rfl, _, _, rfl, rfl, .inl ⟨_, rfl, _, _, rfl, rfl, (by show (0 : Int) < 2147483647; decide), ?_⟩⟩
        refine ⟨_, rfl, r, _, _, _, rfl, rfl, upd_same, rfl, ?_⟩
        refine ⟨_, rfl, _, _, rfl, rfl, (by show CPow 10 18; exact ⟨by decide, by decide, by decide⟩), _, _, rfl, rfl, _, rfl, ?_⟩
        refine ite2 (fun h2 => ?_) (fun h2 => ?_)
        · have h2' : (10 : Int) ^ (18 : Int).toNat ≤ z := of_decide_eq_true h2
          have hz : 0 ≤ z := Int.le_trans (by decide) h2'
          refine ⟨_, rfl, _, rfl, _, _, rfl, rfl, cm, ?_⟩
          refine ⟨_, rfl, r, _, _, _, rfl, rfl, upd_same, rfl, ?_⟩
          refine ⟨_, rfl, .inl ⟨_, rfl, _, rfl, _, _, rfl, rfl, m0, ?_⟩⟩
          exact k _ _ (Int.emod_nonneg _ (Int.ne_of_gt m0)) (Int.emod_lt_of_pos _ m0) (but_upd2 (but_upd2 b1)) ⟨i + 1, _, z / m, upd_same, by omega, Int.ediv_nonneg hz (Int.le_of_lt m0), ns, (but_upd2 (but_upd2 b1)).sql hrow hS⟩
        · refine ⟨_, rfl, .inl ⟨_, rfl, _, rfl, _, _, rfl, rfl, m0, ?_⟩⟩
          exact k _ _ (Int.emod_nonneg _ (Int.ne_of_gt m0)) (Int.emod_lt_of_pos _ m0) (but_upd2 b1) ⟨i + 1, _, c, upd_same, by omega, hc, ns, (but_upd2 b1).sql hrow hS⟩
theorem scP : FnScope ["row", "kinds"] ["row", "kinds"] (defScope sPick) := ⟨rfl, rfl, rfl, by decide +kernel, rfl, by decide +kernel, by decide +kernel⟩
theorem ok_pick {f fT : Addr} {fd fdT : FuncData} (F : Fun K "_law_pick" "_law_pick" sPick f fd) (T : TxtD K mg fT) (FT : Fun K "_law_taken" "_law_taken" sTaken fT fdT) (bT : Binds K fdT ["row", "many"] []) : FnOk P w K mg base CX0 2 f fd ["row", "kinds"] (spPick K) := by
  have GT : FnOk P w K mg base CX0 1 fT fdT ["row", "many"] (spTaken K) := ok_taken FT T
  refine F.ok scP (fun vs H Q E h => ?_) (fun cdv A outer s H vs Q E hr h => ?_)
  · obtain ⟨a, r, p, xs, rfl, _⟩ := h
    rfl
  · obtain ⟨a, r, p, xs, rfl, hR, hp, npr, l0, l1, k⟩ := h
    refine ⟨_, pss_one (ps_ret (pe_ix ix_list (pv 1) (pe_call GT hr rfl T.gT T.kT bT .nil pass0 (pa_cons (pv 0) (pa_cons (pe_callB call_len_seq (by rfl) T.len PySem.boot_len (pa_cons (pv 1) pa_nil)) pa_nil))) (fun _ _ => rfl))), ?_⟩
    refine ⟨_, rfl, _, rfl, _, rfl, p, xs, rfl, .inl (SqL.of hp), a, r, xs.length, rfl, hR, by omega, by omega, fun n H' n0 n1 hb hR' => ?_⟩
    have hp' : H' p = some (.lst xs) := (hb p npr).trans hp
    obtain ⟨j, rfl⟩ : ∃ j : Nat, n = (j : Int) := ⟨n.toNat, by omega⟩
    have hlt : j < xs.length := by omega
    exact ⟨p, xs, _, xs[j], rfl, rfl, SqL.of hp', atI_nat (by rw [List.getElem?_eq_getElem hlt]), k _ _ (List.getElem_mem hlt) hb hR'⟩
end
end LW
set_option Elab.async false
set_option linter.all false
set_option maxRecDepth 100000
set_option maxHeartbeats 4000000
/-! _law_alike, asked of two values that are the same data: True. -/
namespace LW
open PySem L2
def spAlike (K : PySem.W.Frag) (n : Nat) : Sp := fun vs H Q _ => ∃ (x y : V) (d : PyData), vs = [x, y] ∧ Dp K H x d ∧ Dp K H y d ∧ okd n d ∧ n ≤ 60 ∧ ∀ H', Same H H' → Q (.bl true) H'
structure TxtA (K : PySem.W.Frag) (mg : Str → Option Value) (fA : Addr) : Prop where
  isi : mg "isinstance" = none
  tup : mg "tuple" = none
  lst : mg "list" = none
  len : mg "len" = none
  rng : mg "range" = none
  str : mg "str" = none
  int : mg "int" = none
  bool : mg "bool" = none
  gA : mg "_law_alike" = some (.ref fA)
  kA : PySem.W.keepIn K (.ref fA) = true
section
variable {P : Program} {w : World} {K : PySem.W.Frag} {mg : Str → Option Value} {base : Heap}
theorem scA : FnScope ["found", "due", "k"] ["found", "due"] (defScope sAlike) := ⟨rfl, rfl, rfl, by decide +kernel, rfl, by decide +kernel, by decide +kernel⟩
theorem ok_alike {f fA : Addr} {fd : FuncData} (T : TxtA K mg fA) (F : Fun K "_law_alike" "_law_alike" sAlike fA fd) (bA : Binds K fd ["found", "due"] []) : ∀ n : Nat, FnOk P w K mg base CX0 (n + 1) fA fd ["found", "due"] (spAlike K n) := by
  intro n
  induction n with
  | zero =>
    refine F.ok scA (fun vs H Q E h => ?_) (fun cdv A outer s H vs Q E hr h => ?_)
    · obtain ⟨x, y, d, rfl, _⟩ := h
      rfl
    · obtain ⟨x, y, d, rfl, _, _, hd, _⟩ := h
      exact hd.elim
  | succ n ih =>
    refine F.ok scA (fun vs H Q E h => ?_) (fun cdv A outer s H vs Q E hr h => ?_)
    · obtain ⟨x, y, d, rfl, _⟩ := h
      rfl
    · obtain ⟨x, y, d, rfl, hx, hy, hd, hn, k⟩ := h
      refine ⟨_, pss_cons (ps_if (pt_val (pe_callB call_isiT (by rfl) T.isi (by decide +kernel) (pa_cons (pv 1) (pa_cons (pe_tup (pa_cons (pe_bltn (v := .ty "tuple") (by rfl) T.tup (by decide +kernel) rfl) (pa_cons (pe_bltn (v := .ty "list") (by rfl) T.lst (by decide +kernel) rfl) pa_nil))) pa_nil))))
          (pss_cons (ps_if (PW.pt (pw_or (pt_not (pt_val (pe_callB call_isiT (by rfl) T.isi (by decide +kernel) (pa_cons (pv 0) (pa_cons (pe_tup (pa_cons (pe_bltn (v := .ty "tuple") (by rfl) T.tup (by decide +kernel) rfl) (pa_cons (pe_bltn (v := .ty "list") (by rfl) T.lst (by decide +kernel) rfl) pa_nil))) pa_nil)))))
              (pw_or1 (pt_cmpR op_ne (pe_callB call_isi (by rfl) T.isi (by decide +kernel) (pa_cons (pv 0) (pa_cons (pe_bltn (v := .ty "list") (by rfl) T.lst (by decide +kernel) rfl) pa_nil))) (pe_callB call_isi (by rfl) T.isi (by decide +kernel) (pa_cons (pv 1) (pa_cons (pe_bltn (v := .ty "list") (by rfl) T.lst (by decide +kernel) rfl) pa_nil))) (nomark _)))))
            (pss_one (ps_ret pe_bl)) pss_nil)
          (pss_cons (ps_if (pt_cmpR op_ne (pe_callB call_len_seq (by rfl) T.len PySem.boot_len (pa_cons (pv 0) pa_nil)) (pe_callB call_len_seq (by rfl) T.len PySem.boot_len (pa_cons (pv 1) pa_nil)) (nomark _)) (pss_one (ps_ret pe_bl)) pss_nil)
          (pss_one (ps_ret (pe_cmpR (op_eqD hr.units) (pe_lc (own := [("k", 2)]) (g := gName 2) (by rfl) scA.nd (pi_range1 (by rfl) T.rng (pa_cons (pe_callB call_len_seq (by rfl) T.len PySem.boot_len (pa_cons (pv 1) pa_nil)) pa_nil)) (blkOk_by (own := [("k", 2)]) (N := ["found", "due", "k"]) (sc := defScope sAlike) (by decide +kernel))
            (fun _ _ _ _ _ => pg_name (i := 2) scA.nd rfl (.inl rfl))
            (fun _ _ _ _ _ => pts_one (pt_not (pt_val (pe_call ih hr (by rfl) T.gA T.kA bA .nil pass0 (pa_cons (pe_ix (r := rIx K) ix_seq (pv 0) (pv 2) (fun _ _ => rfl)) (pa_cons (pe_ix (r := rIx K) ix_seq (pv 1) (pv 2) (fun _ _ => rfl)) pa_nil))))))
            (fun _ _ _ _ _ => pv 2)) (pe_lst pa_nil) (nomark _)))))) pss_nil)
        (pss_cons (ps_if (PW.pt (pw_or (pt_cmpR op_isN (pv 1) pe_non (nomark _)) (pw_or1 (pt_val (pe_callB call_isi (by rfl) T.isi (by decide +kernel) (pa_cons (pv 1) (pa_cons (pe_bltn (v := .ty "str") (by rfl) T.str (by decide +kernel) rfl) pa_nil)))))))
          (pss_one (ps_ret (pe_and (pe_cmpR (op_eqD hr.units) (pv 0) (pv 1) (nomark _)) (pe_one (pe_cmpR op_eq (pe_callB call_isi (by rfl) T.isi (by decide +kernel) (pa_cons (pv 0) (pa_cons (pe_bltn (v := .ty "str") (by rfl) T.str (by decide +kernel) rfl) pa_nil))) (pe_callB call_isi (by rfl) T.isi (by decide +kernel) (pa_cons (pv 1) (pa_cons (pe_bltn (v := .ty "str") (by rfl) T.str (by decide +kernel) rfl) pa_nil))) (nomark _)))))) pss_nil)
        (pss_one (ps_ret (pe_and (pe_callB call_isi (by rfl) T.isi (by decide +kernel) (pa_cons (pv 0) (pa_cons (pe_bltn (v := .ty "int") (by rfl) T.int (by decide +kernel) rfl) pa_nil)))
          (pe_and (pe_cmpR op_eq (pe_callB call_isi (by rfl) T.isi (by decide +kernel) (pa_cons (pv 0) (pa_cons (pe_bltn (v := .ty "bool") (by rfl) T.bool (by decide +kernel) rfl) pa_nil))) (pe_callB call_isi (by rfl) T.isi (by decide +kernel) (pa_cons (pv 1) (pa_cons (pe_bltn (v := .ty "bool") (by rfl) T.bool (by decide +kernel) rfl) pa_nil))) (nomark _))
          (pe_one (pe_cmpR (op_eqD hr.units) (pv 0) (pv 1) (nomark _)))))))), ?_⟩
      refine ⟨_, rfl, (by show 2 ≤ sizeLine; decide), fun p1 np1 => ⟨y, p1, _, .type (tyName d), _, isSeq d, rfl, upd_same, .cons (.ty _) (.cons (.ty _) .nil), tyx_d (Dp.mono (same_new np1) _ _ hy), kit_seq d, isSeq d, rfl, ?_⟩⟩
      have e1 := same_new (o := .tup [V.ty "tuple", V.ty "list"]) np1
      have nd : ∀ b : Bool, (!decide (V.bl b = V.bl b)) = false := fun b => by simp
      have ni : ∀ i : Int, (!decide (V.int i = V.int i)) = false := fun b => by simp
      have yd : ∀ b : Bool, decide (V.bl b = V.bl b) = true := fun b => by simp
      refine ite2 (fun hq => ?_) (fun hq => ?_)
      · obtain ⟨a, b, xs, ys, ds, rfl, rfl, ax, ay, sx, sy, hlen, hds⟩ : ∃ (a b : Addr) (xs ys : List V) (ds : List PyData), x = .ref a ∧ y = .ref b ∧ DpAll K H xs ds ∧ DpAll K H ys ds ∧ (SqL K H a xs ∨ SqT K H a xs) ∧ (SqL K H b ys ∨ SqT K H b ys) ∧ ds.length ≤ 1000000 ∧ (∀ e ∈ ds, okd n e) := by
          cases hx with
          | lst sx ax =>
            cases hy with
            | lst sy ay => exact ⟨_, _, _, _, _, rfl, rfl, ax, ay, .inl sx, .inl sy, hd.1, hd.2⟩
          | tup sx ax =>
            cases hy with
            | tup sy ay => exact ⟨_, _, _, _, _, rfl, rfl, ax, ay, .inr sx, .inr sy, hd.1, hd.2⟩
          | non => cases hq
          | bl b => cases hq
          | int i => cases hq
          | str z => cases hq
        have seq_mono : ∀ {H1 H2 : Hp} {c : Addr} {zs : List V}, Same H1 H2 → (SqL K H1 c zs ∨ SqT K H1 c zs) → (SqL K H2 c zs ∨ SqT K H2 c zs) := fun e h => h.elim (fun h => .inl (e.seq h)) fun h => .inr (e.sqt h)
        -- not isinstance(found, (tuple, list)) or ..
        refine ⟨_, rfl, (by show 2 ≤ sizeLine; decide), fun p2 np2 => ⟨_, p2, _, .type (tyName d), _, isSeq d, rfl, upd_same, .cons (.ty _) (.cons (.ty _) .nil), tyx_d (Dp.mono (same_new np2) _ _ (Dp.mono e1 _ _ hx)), kit_seq d, isSeq d, rfl, ?_⟩⟩
        have e2 : Same H _ := e1.trans (same_new (o := .tup [V.ty "tuple", V.ty "list"]) np2)
        refine if_f (by rw [hq]; rfl) ?_
        refine ⟨_, rfl, _, _, .type (tyName d), _, isLst d, rfl, .ty _, tyx_d (Dp.mono e2 _ _ hx), kit_lst d, ?_⟩
        refine ⟨_, rfl, _, _, .type (tyName d), _, isLst d, rfl, .ty _, tyx_d (Dp.mono e2 _ _ hy), kit_lst d, rfl, _, rfl, ?_⟩
        refine if_f (nd _) ?_
        refine ⟨_, rfl, a, xs, rfl, seq_mono e2 sx, _, rfl, b, ys, rfl, seq_mono e2 sy, rfl, _, rfl, ?_⟩
        refine if_f (by rw [DpAll.length ax, DpAll.length ay]; exact ni _) ?_
        -- [k for k in range(len(due)) if not ..] == []
        refine ⟨_, rfl, b, ys, rfl, seq_mono e2 sy, _, rfl, ?_, ?_, fun D nD => ?_⟩
        · have := DpAll.length ay
          omega
        · have := DpAll.length ay
          omega
        have eD : Same H (upd _ D (.lst [])) := e2.trans (same_new nD)
        rw [show ((ys.length : Nat) : Int).toNat = ds.length by rw [Int.toNat_natCast, DpAll.length ay]]
        refine lc_range (lo := 0) (n := ds.length) (fun i H' => Same H H' ∧ H' D = some (.lst [])) ⟨eD, upd_same⟩ (fun i H' hi ⟨e3, hD⟩ => ⟨rfl, ?_⟩) (fun H' ⟨e3, hD⟩ => ?_)
        · have hdi : ds[i]? = some ds[i] := List.getElem?_eq_getElem hi
          obtain ⟨u, hu, du⟩ := DpAll.get ax hdi
          obtain ⟨v, hv, dv⟩ := DpAll.get ay hdi
          have ixs : ∀ {c : Addr} {zs : List V} {t : V} {Q : VK}, (SqL K H c zs ∨ SqT K H c zs) → zs[i]? = some t → Q t H' → rIx K (.ref c) (.int (0 + (i : Int))) H' Q := fun {c zs t Q} h hz q => by
            have ha : atI zs (0 + (i : Int)) = some t := by
              rw [Int.zero_add]
              exact atI_nat hz
            rcases h with h | h
            · exact .inl ⟨c, zs, _, t, rfl, rfl, e3.seq h, ha, q⟩
            · exact .inr (.inl ⟨c, zs, _, t, rfl, rfl, e3.sqt h, ha, q⟩)
          refine ⟨_, rfl, _, rfl, ixs sx hu ⟨_, rfl, _, rfl, ixs sy hv ?_⟩⟩
          refine ⟨u, v, ds[i], rfl, Dp.mono e3 _ _ du, Dp.mono e3 _ _ dv, hds _ (List.getElem_mem hi), by omega, fun H4 e4 => ⟨true, rfl, ?_⟩⟩
          exact if_f rfl ⟨e3.trans e4, e4 _ _ hD⟩
        · refine ⟨Nat.zero_le _, fun p3 np3 => ?_⟩
          have e4 := same_new (o := .lst []) np3
          refine ⟨.list [], .list [], .lst (SqL.of (e4 _ _ hD)) .nil, .lst (SqL.of upd_same) .nil, by decide +kernel, by decide +kernel, ?_⟩
          exact k _ (e3.trans e4)
      · have sh : SeqAt.shaped d = true := okd_shaped hd (by omega)
        have self : PyData.eqv d d = true := SeqAt.eqv_refl d (okd_lay hd)
        have fin : ∀ b c : Bool, b = true → c = true → Q (.bl b) (upd H p1 (.tup [V.ty "tuple", V.ty "list"])) := fun b _ hb _ => by
          rw [hb]
          exact k _ e1
        have eqs : ∀ {Q' : VK}, Q' (.bl true) (upd H p1 (.tup [V.ty "tuple", V.ty "list"])) → rEqD K x y (upd H p1 (.tup [V.ty "tuple", V.ty "list"])) Q' := fun {Q'} q => ⟨d, d, Dp.mono e1 _ _ hx, Dp.mono e1 _ _ hy, sh, sh, by rw [self]; exact q⟩
        have low : ((isStr d = true ∨ y = .non) ∧ isInt d = false) ∨ ((isStr d = false ∧ y ≠ .non) ∧ isInt d = true) := by
          cases hy with
          | non => exact .inl ⟨.inr rfl, rfl⟩
          | str z => exact .inl ⟨.inl rfl, rfl⟩
          | int i => exact .inr ⟨⟨rfl, fun z => nomatch z⟩, rfl⟩
          | bl b => exact .inr ⟨⟨rfl, fun z => nomatch z⟩, rfl⟩
          | lst _ _ => exact absurd rfl hq
          | tup _ _ => exact absurd rfl hq
        -- due is None or isinstance(due, str)
        have tys : ∀ {v : V}, Dp K H v d → TyX K (upd H p1 (.tup [V.ty "tuple", V.ty "list"])) v (.type (tyName d)) := fun h => tyx_d (Dp.mono e1 _ _ h)
        refine ⟨_, rfl, rfl, _, rfl, ?_⟩
        rcases low with ⟨h1, h2⟩ | ⟨⟨h1, h1'⟩, h2⟩
        · have one : (tRet (tAndV (tOp (rEqD K) (tVar 0) (tVar 1)) (tOp rEq (tCB (rIsi K) (tCons (tVar 0) (tCons (tC (.ty "str")) tNil))) (tCB (rIsi K) (tCons (tVar 1) (tCons (tC (.ty "str")) tNil)))))) { nx := fun _ H' => Q .non H', rt := Q } [some x, some y, none] (upd H p1 (.tup [V.ty "tuple", V.ty "list"])) := by
            refine ⟨_, rfl, _, rfl, eqs ⟨true, rfl, if_t rfl ?_⟩⟩
            refine ⟨_, rfl, _, _, .type (tyName d), _, isStr d, rfl, .ty _, tys hx, kit_str d, ?_⟩
            refine ⟨_, rfl, _, _, .type (tyName d), _, isStr d, rfl, .ty _, tys hy, kit_str d, rfl, ?_⟩
            exact fin _ true (yd _) rfl
          by_cases hn : y = .non
          · exact if_t (decide_eq_true hn) (if_t rfl one)
          · refine if_f (decide_eq_false hn) ⟨_, rfl, _, _, .type (tyName d), _, isStr d, rfl, .ty _, tys hy, kit_str d, _, rfl, ?_⟩
            exact if_t (h1.elim id fun z => absurd z hn) one
        · refine if_f (decide_eq_false h1') ⟨_, rfl, _, _, .type (tyName d), _, isStr d, rfl, .ty _, tys hy, kit_str d, _, rfl, if_f h1 ?_⟩
          refine ⟨_, rfl, _, _, .type (tyName d), _, isInt d, rfl, .ty _, tys hx, kit_int d, _, rfl, if_t h2 ?_⟩
          refine ⟨_, rfl, _, _, .type (tyName d), _, isBool d, rfl, .ty _, tys hx, kit_bool d, ?_⟩
          refine ⟨_, rfl, _, _, .type (tyName d), _, isBool d, rfl, .ty _, tys hy, kit_bool d, rfl, _, rfl, if_t (yd _) ?_⟩
          exact ⟨_, rfl, _, rfl, eqs (fin _ true rfl rfl)⟩
end
end LW
set_option Elab.async false
set_option linter.all false
set_option maxRecDepth 100000
set_option maxHeartbeats 4000000
/-! What the written part says of the errors: the facts in the order in which k_is answers them. -/
namespace PySem
namespace LadX
open PySem.W PySem.Calls PyProof.Rows PySem.HandSPX L2
section
variable {prog : Program} {K : Frag} {h : Heap} {mg : Str → Option Value} {x f : Str} {C fI : Addr}
variable {nm q : Str} {N : Addr} {bs bm : List Value} {sn : List Str} {sub : List Value} {ab : Bool} {col : Option Bool} {dd : Option Addr} {k0 k1 k2 k3 k5 : Option Value}
variable {qual : Str} {oc : Value} {od : Option Addr} {doc pm : Value} {an : Option Addr} {cda cc : Addr} {ct : Value} {osl : Array (Option Value)} {p1 p2 p3 q1 q2 q3 q4 q5 q6 q7 r1 r2 r3 r4 s1 s2 s3 s4 : Pos} {vs : Array Value} {file : Str} {tf : Tok} {ccl cl : Value} {cdd cld : Option Addr} {ccs csl : Array (Option Value)}
theorem along_of (xL : K.lookup C = some (excClassObj nm q C N bs bm true sn sub ab col dd k0 k1 k2 k3 k5 "ValueError.__new__")) {v : Option (Option Value)} (sup : ks_superIn K C C "__init__" = v) : alongIn K "__init__" bm = v := by
  have hcl : clsIn K C = some { name := nm, bases := bs, mro := .ref C :: bm, ns := N, qualname := q, hasDict := true, slotNames := sn, subclasses := sub, abstract := ab, collection := col, hasDel := false } := by unfold clsIn; rw [xL] <;> rfl
  unfold ks_superIn at sup
  rw [hcl] at sup
  have e : (((Value.ref C :: bm).dropWhile (· != .ref C)).drop 1) = bm := drop_own C bm
  have s2 : alongIn K "__init__" (((Value.ref C :: bm).dropWhile (· != .ref C)).drop 1) = v := sup
  rw [e] at s2
  exact s2
theorem err_mk (X : K.In h) (G : h.Ns mainGlobals mg) (nice : Nice f)
    (aC : nsIn K mainGlobals x = some (some (.ref C))) (aS : nsIn K mainGlobals "super" = some none)
    (xL : K.lookup C = some (excClassObj nm q C N bs bm true sn sub ab col dd k0 k1 k2 k3 k5 "ValueError.__new__")) (sup : ks_superIn K C C "__init__" = some (some (.builtin "ValueError.__init__")))
    (opq : nsIn K cStatics "thirdparty.any" = some none) (sa : findIn K (.ref C) "__setattr__" = some (some (.builtin "object.__setattr__"))) (ga : findIn K (.ref C) "__getattribute__" = some (some (.builtin "BaseException.__getattribute__")))
    (gg : findIn K (.ref C) "__getattr__" = some none) (noN : findIn K (.ref C) f = some none) (iC : findIn K (.ref C) "__init__" = some (some (.ref fI))) (tC : typeIn K (.ref fI) = some (.type "function")) (kC : keepIn K (.ref C) = true)
    (exC : subIn K (.ref C) (.type "BaseException") = some true) (veC : subIn K (.ref C) (.type "ValueError") = some true) (seC : mroIn K C (.ref C) = some true) (tyC : typeIn K (.ref C) = some (.type "type")) (hdC : hasDictIn K C = true)
    (lf : K.lookup fI = some ⟨oc, od, .func (ksFn "__init__" qual (iA1 f p1 p2) (iB1 f q1 q2 q3 q4 q5 q6 r1 r2 r3 r4) (iS1 f) .none .none doc pm an (.ref cda) ct cc), osl⟩)
    (cd : codeIn K (.ref cda) qual = true) (lc : K.lookup cda = some ⟨ccl, cdd, .fields vs, ccs⟩) (lcc : K.lookup cc = some ⟨cl, cld, .cell (some (.ref C)), csl⟩)
    (hbm : refsVE bm = true) (ln : (q3.endLine == q5.line) = true) (hv : vs[2]? = some (.str file tf)) (hf : ((prog.main.file : Str) == file) = true) (top : (prog.main.scope.names.lookup ("super" : Str)).isSome = false) : ErrTxt prog K mg x f C fI where
  nice := nice
  gC := mg_of X G aC
  gS := mg_none_of X G aS
  cls := ⟨nm, q, N, bs, bm, sn, sub, ab, col, dd, k0, k1, k2, k3, k5, xL, hbm, along_of xL sup⟩
  opq := opq
  sa := sa
  ga := ga
  gg := gg
  noN := noN
  iC := iC
  tC := tC
  kC := kC
  exC := exC
  veC := veC
  seC := seC
  tyC := tyC
  hdC := hdC
  top := top
  fn := ⟨qual, oc, od, doc, pm, an, cda, cc, ct, osl, p1, p2, q1, q2, q3, q4, q5, q6, r1, r2, r3, r4, vs, file, tf, ccl, cl, cdd, cld, ccs, csl, lf, ln, cd, lc, hv, hf, lcc⟩
theorem ref_mk (X : K.In h) (G : h.Ns mainGlobals mg)
    (aC : nsIn K mainGlobals x = some (some (.ref C))) (aS : nsIn K mainGlobals "super" = some none)
    (xL : K.lookup C = some (excClassObj nm q C N bs bm true sn sub ab col dd k0 k1 k2 k3 k5 "ValueError.__new__")) (sup : ks_superIn K C C "__init__" = some (some (.builtin "ValueError.__init__")))
    (opq : nsIn K cStatics "thirdparty.any" = some none) (sa : findIn K (.ref C) "__setattr__" = some (some (.builtin "object.__setattr__"))) (ga : findIn K (.ref C) "__getattribute__" = some (some (.builtin "BaseException.__getattribute__")))
    (gg : findIn K (.ref C) "__getattr__" = some none) (no1 : findIn K (.ref C) "reason" = some none) (no2 : findIn K (.ref C) "names" = some none) (iC : findIn K (.ref C) "__init__" = some (some (.ref fI))) (tC : typeIn K (.ref fI) = some (.type "function")) (kC : keepIn K (.ref C) = true)
    (exC : subIn K (.ref C) (.type "BaseException") = some true) (veC : subIn K (.ref C) (.type "ValueError") = some true) (seC : mroIn K C (.ref C) = some true) (tyC : typeIn K (.ref C) = some (.type "type")) (hdC : hasDictIn K C = true)
    (lf : K.lookup fI = some ⟨oc, od, .func (ksFn "__init__" qual (jA p1 p2 p3) (jB q1 q2 q3 q4 q5 q6 q7 r1 r2 r3 r4 s1 s2 s3 s4) jS .none .none doc pm an (.ref cda) ct cc), osl⟩)
    (cd : codeIn K (.ref cda) qual = true) (lc : K.lookup cda = some ⟨ccl, cdd, .fields vs, ccs⟩) (lcc : K.lookup cc = some ⟨cl, cld, .cell (some (.ref C)), csl⟩)
    (hbm : refsVE bm = true) (ln : (q3.endLine == q6.line) = true) (hv : vs[2]? = some (.str file tf)) (hf : ((prog.main.file : Str) == file) = true) (top : (prog.main.scope.names.lookup ("super" : Str)).isSome = false) : RefTxt prog K mg x C fI where
  gC := mg_of X G aC
  gS := mg_none_of X G aS
  cls := ⟨nm, q, N, bs, bm, sn, sub, ab, col, dd, k0, k1, k2, k3, k5, xL, hbm, along_of xL sup⟩
  opq := opq
  sa := sa
  ga := ga
  gg := gg
  no1 := no1
  no2 := no2
  iC := iC
  tC := tC
  kC := kC
  exC := exC
  veC := veC
  seC := seC
  tyC := tyC
  hdC := hdC
  top := top
  fn := ⟨qual, oc, od, doc, pm, an, cda, cc, ct, osl, p1, p2, p3, q1, q2, q3, q4, q5, q6, q7, r1, r2, r3, r4, s1, s2, s3, s4, vs, file, tf, ccl, cl, cdd, cld, ccs, csl, lf, ln, cd, lc, hv, hf, lcc⟩
theorem none_mk (X : K.In h) (G : h.Ns mainGlobals mg) (aC : nsIn K mainGlobals x = some (some (.ref C))) (xL : K.lookup C = some (excClassObj nm q C N bs bm true sn sub ab col dd k0 k1 k2 k3 k5 "ValueError.__new__"))
    (iC : findIn K (.ref C) "__init__" = some (some (.builtin "ValueError.__init__"))) (kC : keepIn K (.ref C) = true) (exC : subIn K (.ref C) (.type "BaseException") = some true) (tyC : typeIn K (.ref C) = some (.type "type")) (hbm : refsVE bm = true) : NoneTxt K mg x C :=
  ⟨mg_of X G aC, ⟨nm, q, N, bs, bm, sn, sub, ab, col, dd, k0, k1, k2, k3, k5, xL, hbm⟩, iC, kC, exC, tyC⟩
/-- a class, as isinstance asks of its instances -/
theorem excC_mk (L : ErrLook K C) (ha : findIn K (.ref C) "__class__" = some (some (.builtin "object.__class__"))) (hn : specialIn K (.builtin "object.__class__") "__get__" = some (some (.builtin "getset_descriptor.__get__")))
    (ht : takesIn K (.builtin "object.__class__") = some true) (hm : mroIn K C (.type "object") = some true) : L2.ExcC K C := ⟨L.ga, L.gg, L.exC, L.hdC, ha, hn, ht, hm⟩
end
end LadX
end PySem
set_option Elab.async false
set_option linter.all false
set_option maxRecDepth 100000
set_option maxHeartbeats 4000000
/-! Texts as lists of codes. -/
namespace L2
open PySem
inductive All2 {α β : Type} (R : α → β → Prop) : List α → List β → Prop where
  | nil : All2 R [] []
  | cons {a : α} {b : β} {as : List α} {bs : List β} : R a b → All2 R as bs → All2 R (a :: as) (b :: bs)
def tx (l : List Nat) : Str := ⟨l.toArray⟩
theorem tx_list (l : List Nat) : (tx l).cps.toList = l := by simp [tx]
theorem tx_size (l : List Nat) : (tx l).cps.size = l.length := by simp [tx]
theorem tx_len (l : List Nat) : (tx l).length = l.length := tx_size l
theorem tx_of (z : Str) : tx z.cps.toList = z := by
  cases z
  simp [tx]
theorem tx_inj {a b : List Nat} (h : tx a = tx b) : a = b := by
  have e := congrArg (fun z : Str => z.cps.toList) h
  simpa [tx] using e
theorem tx_iff {a b : List Nat} : tx a = tx b ↔ a = b := ⟨tx_inj, fun h => by rw [h]⟩
theorem tx_app (a b : List Nat) : tx a ++ tx b = tx (a ++ b) := by
  rw [← tx_of (tx a ++ tx b), PyProof.Rows.cps_toList_append, tx_list, tx_list]
theorem tx_get (l : List Nat) (i : Nat) : (tx l).cps[i]? = l[i]? := by simp [tx]
theorem tx_one (c : Nat) : (⟨#[c]⟩ : Str) = tx [c] := rfl
theorem tx_nil : (⟨#[]⟩ : Str) = tx [] := rfl
theorem tx_empty : Str.empty = tx [] := rfl
theorem v_tx {a b : List Nat} : (V.str (tx a) = V.str (tx b)) ↔ a = b := ⟨fun h => tx_inj (by injection h), fun h => by rw [h]⟩
theorem dec_tx (a b : List Nat) : decide (V.str (tx a) = V.str (tx b)) = decide (a = b) := by
  by_cases h : a = b
  · rw [decide_eq_true h, decide_eq_true (v_tx.mpr h)]
  · rw [decide_eq_false h, decide_eq_false (fun q => h (v_tx.mp q))]
/-- a sep b sep c -/
def joinL (sep : List Nat) : List (List Nat) → List Nat
  | [] => []
  | [x] => x
  | x :: y :: r => x ++ sep ++ joinL sep (y :: r)
theorem glue_tx (sep : List Nat) : ∀ (ls : List (List Nat)) (acc : List Nat), ((ls.map tx).foldl (fun a p => a ++ (tx sep).cps ++ p.cps) acc.toArray).toList = acc ++ (ls.map fun x => sep ++ x).flatten
  | [], acc => by simp
  | x :: r, acc => by
    rw [List.map_cons, List.foldl_cons]
    have e : (acc.toArray ++ (tx sep).cps ++ (tx x).cps) = (acc ++ sep ++ x).toArray := by simp [tx]
    rw [e, glue_tx sep r]
    simp
theorem joinL_flat (sep : List Nat) : ∀ (x : List Nat) (r : List (List Nat)), joinL sep (x :: r) = x ++ (r.map fun y => sep ++ y).flatten
  | x, [] => by simp [joinL]
  | x, y :: r => by
    rw [joinL, joinL_flat sep y r]
    simp
theorem join_tx (sep : List Nat) : ∀ ls : List (List Nat), Txt.join (tx sep) (ls.map tx) = tx (joinL sep ls)
  | [] => rfl
  | x :: r => by
    show Builtin.Str.glued (tx sep) ((x :: r).map tx) = _
    rw [← tx_of (Builtin.Str.glued (tx sep) ((x :: r).map tx)), joinL_flat]
    congr 1
    show ((((x :: r).map tx).drop 1).foldl (fun acc p => acc ++ (tx sep).cps ++ p.cps) (((x :: r).map tx).headD Str.empty).cps).toList = _
    rw [List.map_cons, List.drop_one, List.tail_cons, List.headD_cons]
    exact glue_tx sep r x
/-- numbers -/
def digL (n : Nat) : List Nat := (Nat.toDigits 10 n).map Char.toNat
def numL (i : Int) : List Nat := if i < 0 then 45 :: digL i.natAbs else digL i.toNat
theorem num_tx (i : Int) : (Str.ofString (toString i)) = tx (numL i) := by
  rw [← tx_of (Str.ofString (toString i))]
  congr 1
  cases i with
  | ofNat m =>
    show (Str.ofString (toString ((m : Nat) : Int))).cps.toList = _
    rw [PySem.W.KIN.signs_num]
    show _ = if ((m : Nat) : Int) < 0 then _ else digL (m : Int).toNat
    rw [if_neg (by omega)]
    rfl
  | negSucc m =>
    rw [PyProof.Rows.signs_ofString]
    show (("-" : String) ++ Nat.repr (m + 1)).toList.map Char.toNat = if Int.negSucc m < 0 then 45 :: digL (Int.negSucc m).natAbs else _
    rw [if_pos (Int.negSucc_lt_zero m), String.toList_append, List.map_append, Nat.toList_repr]
    rfl
/-! slices -/
theorem cut_tx (l : List Nat) (lo hi : Option Int) : cutS (tx l) lo hi = tx ((l.drop (HT.sIx l.length 0 lo)).take (HT.sIx l.length l.length hi - HT.sIx l.length 0 lo)) := by
  unfold cutS
  rw [tx_list, tx_len]
  rfl
theorem cut_to (l : List Nat) (k : Nat) : cutS (tx l) none (some (k : Int)) = tx (l.take k) := by
  rw [cut_tx, HT.sIx_none, HT.sIx_nat]
  congr 1
  simp [List.take_eq_take_iff]
theorem cut_from (l : List Nat) (k : Nat) : cutS (tx l) (some (k : Int)) none = tx (l.drop k) := by
  rw [cut_tx, HT.sIx_none, HT.sIx_nat]
  congr 1
  by_cases h : k ≤ l.length
  · rw [Nat.min_eq_left h]
    exact List.take_of_length_le (by rw [List.length_drop]; omega)
  · rw [Nat.min_eq_right (by omega), List.drop_of_length_le (Nat.le_refl _), List.drop_of_length_le (by omega)]
    simp
theorem sIx_neg (n d k : Nat) (h : 0 < k) : HT.sIx n d (some (-(k : Int))) = n - k := by
  show (if -(k : Int) < 0 then (-(k : Int) + (n : Int)).toNat else _) = _
  rw [if_pos (by omega)]
  omega
theorem cut_toN (l : List Nat) (k : Nat) (h : 0 < k) : cutS (tx l) none (some (-(k : Int))) = tx (l.take (l.length - k)) := by
  rw [cut_tx, HT.sIx_none, sIx_neg _ _ _ h]
  rfl
theorem cut_fromN (l : List Nat) (k : Nat) (h : 0 < k) : cutS (tx l) (some (-(k : Int))) none = tx (l.drop (l.length - k)) := by
  rw [cut_tx, HT.sIx_none, sIx_neg _ _ _ h]
  congr 1
  exact List.take_of_length_le (by rw [List.length_drop]; exact Nat.le_refl _)
end L2
set_option Elab.async false
set_option linter.all false
set_option maxRecDepth 100000
set_option maxHeartbeats 4000000
/-! Texts cut at one sign. -/
namespace L2
open PySem
theorem tl_tx (l : List Nat) : TL.tl (tx l) = l := tx_list l
theorem split_tx {a : List Nat} {c : Nat} (h : c < 256) : Txt.split (tx a) (tx [c]) = (TL.spl [c] 0 [] a).map tx := by
  refine TL.map_tl_inj ?_
  have e := TL.split_spl (tx a) (tx [c]) (by rw [tl_tx]; exact List.cons_ne_nil _ _) (TL.kind_ok (by
    rw [← Array.all_toList, tx_list]
    simpa using h))
  rw [tl_tx, tl_tx] at e
  rw [e, List.map_map]
  have : ∀ l : List (List Nat), l = l.map (TL.tl ∘ tx) := fun l => by
    induction l with
    | nil => rfl
    | cons x l ih => rw [List.map_cons, ← ih]; simp [tl_tx]
  exact this _
/-- lines that each end with the sign c -/
theorem spl_lines {c : Nat} : ∀ ls : List (List Nat), (∀ l ∈ ls, c ∉ l) → TL.spl [c] 0 [] (ls.map fun l => l ++ [c]).flatten = ls ++ [[]]
  | [], _ => TL.spl_nil _ _ _
  | l :: ls, h => by
    rw [List.map_cons, List.flatten_cons, List.append_assoc]
    have e := TL.spl_part1 (s := c) (S := []) (p := l) (rest := (ls.map fun l => l ++ [c]).flatten) (acc := []) (h l List.mem_cons_self)
    rw [List.nil_append] at e
    exact e.trans (by rw [spl_lines ls fun x hx => h x (List.mem_cons_of_mem _ hx)]; rfl)
theorem cutV_init {α : Type} (f : α → V) (xs : List α) (x : α) : cutV ((xs ++ [x]).map f) none (some (-1)) = xs.map f := by
  unfold cutV
  rw [show (-1 : Int) = -((1 : Nat) : Int) from rfl, sIx_neg _ _ _ (by decide)]
  simp [HT.sIx_none]
end L2
set_option Elab.async false
set_option linter.all false
set_option maxRecDepth 100000
set_option maxHeartbeats 4000000
/-! Comprehensions whose element is reckoned item by item, all that was tracked standing. -/
namespace L2
open PySem
theorem sqO {K : PySem.W.Frag} {H : Hp} {a : Addr} {xs : List V} (h : H a = some (.lst xs)) : SqL K H a xs := Or.inl (Or.inl h)
theorem stO {K : PySem.W.Frag} {H : Hp} {a : Addr} {xs : List V} (h : H a = some (.tup xs)) : SqT K H a xs := Or.inl (Or.inl h)
def rLenQ (K : PySem.W.Frag) : List V → Hp → VK → Prop := fun xs H Q => ∃ p ys, xs = [.ref p] ∧ (SqL K H p ys ∨ SqT K H p ys) ∧ Q (.int (ys.length : Nat)) H
theorem cq_len {X : Cx} : CallR X (.builtin "len") (rLenQ X.K) := call_len_seq
def rTupQ (K : PySem.W.Frag) : List V → Hp → VK → Prop := fun xs H Q => ∃ p ys, xs = [.ref p] ∧ ((SqL K H p ys ∧ ∀ l, H l = none → Q (.ref l) (upd H l (.tup ys))) ∨ (SqT K H p ys ∧ Q (.ref p) H))
theorem cq_tup {X : Cx} : CallR X (.type "tuple") (rTupQ X.K) := call_tuple_of
def rListQ (K : PySem.W.Frag) : List V → Hp → VK → Prop := fun xs H Q => ∃ p ys, xs = [.ref p] ∧ (SqL K H p ys ∨ SqT K H p ys) ∧ ∀ l, H l = none → Q (.ref l) (upd H l (.lst ys))
theorem cq_list {X : Cx} : CallR X (.type "list") (rListQ X.K) := call_list_of
def tMid (t u : TS) : TS := fun D σ H => ∃ Mid : L2.St → Hp → Prop, t { D with nx := Mid } σ H ∧ ∀ σ' H', Mid σ' H' → u D σ' H'
theorem pss_mid {X : Cx} {st : Stmt} {rest : List Stmt} {t u : TS} (h1 : PS X st t) (h2 : PSs X rest u) : PSs X (st :: rest) (tMid t u) := by
  refine ⟨fun pins s0 τ G E J q => ?_⟩
  have ⟨M, a, b⟩ := q
  refine wpAny_execs_cons (thn (h1.run pins s0 τ G { E with nx := M } J a) fun how s2 r => ?_)
  match how, r with
  | .next, ⟨τ2, G2, J2, r⟩ => exact h2.run pins s2 τ2 G2 E J2 (b τ2 G2 r)
  | .ret v, r => exact r
  | .brk, r => exact r
  | .cont, r => exact r
theorem tyV_lst {K : PySem.W.Frag} {H : Hp} {p : Addr} {xs : List V} (h : H p = some (.lst xs)) : tyV K "list" (.ref p) H := .inl ⟨rfl, xs, sqO h⟩
theorem same_put {H G : Hp} {p : Addr} {o : HO} (e : Same H G) (n : H p = none) : Same H (upd G p o) := fun b u h => by
  rw [upd_ne (ne_of_none h n)]
  exact e b u h
theorem pf {p : Prop} (h : p) : p := h
theorem pi_or {X : Cx} {tg l : Expr} {t1 t2 : TI} (h1 : PI X tg l t1) (h2 : PI X tg l t2) : PI X tg l (fun σ H R => t1 σ H R ∨ t2 σ H R) :=
  ⟨fun pins s σ H R I h => h.elim (h1.run pins s σ H R I) (h2.run pins s σ H R I)⟩
theorem use_slA {K : PySem.W.Frag} {H : Hp} {a : Addr} {xs : List V} {lo hi : Option Int} {Q : VK} (h : SqT K H a xs) (k : ∀ p H', Same H H' → SqT K H' p (cutV xs lo hi) → Q (.ref p) H') : rSlA K (.ref a) lo hi H Q := by
  refine ⟨a, xs, rfl, h, fun w => ?_, fun _ p np => k p _ (same_new np) (stO upd_same)⟩
  have e : cutV xs lo hi = xs := by
    unfold cutV
    rw [w.1, w.2]
    simp
  exact k a H (Same.refl H) (by rw [e]; exact h)
theorem use_catA {K : PySem.W.Frag} {H : Hp} {a b : Addr} {xs ys : List V} {Q : VK} (h : SqT K H a xs) (g : SqT K H b ys) (z : xs.length + ys.length ≤ sizeLine) (k : ∀ p H', Same H H' → SqT K H' p (xs ++ ys) → Q (.ref p) H') : rCatA K (.ref a) (.ref b) H Q := by
  refine ⟨a, b, xs, ys, rfl, rfl, h, g, z, fun e => ?_, fun _ e => ?_, fun _ _ p np => k p _ (same_new np) (stO upd_same)⟩
  · exact k b H (Same.refl H) (by rw [e]; exact g)
  · exact k a H (Same.refl H) (by rw [e, List.append_nil]; exact h)
theorem cutV_at {α : Type} (f : α → V) (xs : List α) (i : Nat) : cutV (xs.map f) (some (i : Int)) (some ((i : Int) + 1)) = ((xs.drop i).take 1).map f := by
  unfold cutV
  rw [show (i : Int) + 1 = ((i + 1 : Nat) : Int) by omega, HT.sIx_nat, HT.sIx_nat, List.length_map, List.map_take, List.map_drop]
  by_cases h : i < xs.length
  · rw [Nat.min_eq_left (Nat.le_of_lt h), Nat.min_eq_left h, show i + 1 - i = 1 by omega]
  · rw [List.drop_eq_nil_of_le (by rw [List.length_map]; omega), List.drop_eq_nil_of_le (by rw [List.length_map]; omega)]
    simp
theorem walk_range0 {n : Nat} : Walk (Itr 0 n) n (fun _ => True) (YFn fun i => .int (i : Nat)) :=
  ⟨walk_range.goes, walk_range.stops, fun i H x H' hi g y => by
    have q := (walk_range (lo := 0)).yields i H x H' hi g y
    exact ⟨q.1, by rw [q.2]; show V.int (0 + (i : Int)) = _; rw [Int.zero_add]⟩⟩
theorem range_map {α β : Type} (xs : List α) (d : α) (f : α → β) : (List.range xs.length).map (fun i => f (xs.getD i d)) = xs.map f := by
  apply List.ext_getElem
  · simp
  · intro i h1 h2
    have hi : i < xs.length := by simpa using h1
    simp [List.getD_eq_getElem?_getD, List.getElem?_eq_getElem hi]
theorem getD_some {α : Type} {xs : List α} {i : Nat} {x d : α} (h : xs[i]? = some x) : xs.getD i d = x := by
  rw [List.getD_eq_getElem?_getD, h]
  rfl
section
variable {J : It} {n : Nat} {G : Hp → Prop} {Y : Nat → Hp → V → Hp → Prop}
theorem lc_map (w : Walk J n G Y) {k : Nat} {te : TE} {vs : List Nat} {σ : L2.St} {H1 : Hp} {D : Addr} {Qd : Hp → Prop} (nD : H1 D = none) (fs : Nat → V) (hn : n ≤ 1000000) (hG : ∀ H, Same H1 H → G H) (hY : ∀ i H x H', i < n → Y i H x H' → Same H H')
    (hw : ∀ x, wipe ((wipe σ vs).set k (some x)) vs = wipe σ vs)
    (hs : ∀ i x H H', i < n → Same H1 H → Y i H x H' → ∀ Q' : VK, (∀ H'', Same H' H'' → Q' (fs i) H'') → te ((wipe σ vs).set k (some x)) H' Q')
    (hd : ∀ H, Same H1 H → H D = some (.lst ((List.range n).map fs)) → Qd H) :
    ∃ W : Nat → Nat → Hp → Prop, (∃ m, W 0 m (upd H1 D (.lst []))) ∧ ∀ i m H, W i m H →
      (J.stop i H ∧ Qd H) ∨ (J.go i H ∧ ∃ Nx : Hp → Prop, (∀ H', Nx H' → ∃ m', m' < m ∧ W (i + 1) m' H') ∧ ∀ x H', J.yld i H x H' → gName k x (wipe σ vs) H' fun σ2 H2 => wipe σ2 vs = wipe σ vs ∧ tYes σ2 H2 fun b H3 =>
        if b = true then te σ2 H3 fun y H4 => ∃ acc, H4 D = some (.lst acc) ∧ acc.length < sizeLine ∧ Nx (upd H4 D (.lst (acc ++ [y]))) else Nx H3) := by
  refine lc_it w (fun i H => Same H1 H ∧ H D = some (.lst ((List.range i).map fs))) ⟨same_new nD, upd_same⟩ (fun i H _ h => hG H h.1) (fun i x H H' hi ⟨e, hD⟩ y => ?_) (fun H ⟨e, hD⟩ => hd H e hD)
  refine ⟨hw x, ?_⟩
  refine hs i x H H' hi e y _ fun H'' e2 => ?_
  have e3 := (hY i H x H' hi y).trans e2
  refine ⟨_, e3 _ _ hD, ?_, ?_, ?_⟩
  · rw [List.length_map, List.length_range]
    exact Nat.lt_of_lt_of_le hi (Nat.le_trans hn (by decide))
  · intro b o h
    rw [upd_ne (ne_of_none h nD)]
    exact e3 _ _ (e _ _ h)
  · rw [upd_same, List.range_succ, List.map_append]
    rfl
end
theorem DpAll.snoc {K : PySem.W.Frag} {G : Hp} {v : V} {d : PyData} (g : Dp K G v d) : ∀ {xs : List V} {ds : List PyData}, DpAll K G xs ds → DpAll K G (xs ++ [v]) (ds ++ [d])
  | _, _, .nil => .cons g .nil
  | _, _, .cons h r => .cons h (DpAll.snoc g r)
theorem frozenAll_of : ∀ {ds : List PyData}, (∀ d ∈ ds, frozen d = true) → frozenAll ds = true
  | [], _ => by rw [frozenAll]
  | d :: ds, h => by
    rw [frozenAll, h d List.mem_cons_self, frozenAll_of fun x hx => h x (List.mem_cons_of_mem _ hx)]
    rfl
section
variable {K : PySem.W.Frag} {J : It} {n : Nat} {G : Hp → Prop} {Y : Nat → Hp → V → Hp → Prop}
/-- a comprehension whose i-th element is some value of the data fd i (no lists in it) -/
theorem lc_dp (w : Walk J n G Y) {k : Nat} {te : TE} {vs : List Nat} {σ : L2.St} {H1 : Hp} {D : Addr} {Qd : Hp → Prop} (nD : H1 D = none) (fd : Nat → PyData) (hfz : ∀ i, i < n → frozen (fd i) = true) (hn : n ≤ 1000000) (hG : ∀ H, Same H1 H → G H) (hY : ∀ i H x H', i < n → Y i H x H' → Same H H')
    (hw : ∀ x, wipe ((wipe σ vs).set k (some x)) vs = wipe σ vs)
    (hs : ∀ i x H H', i < n → Same H1 H → Y i H x H' → ∀ Q' : VK, (∀ v H'', Same H' H'' → Dp K H'' v (fd i) → Q' v H'') → te ((wipe σ vs).set k (some x)) H' Q')
    (hd : ∀ H xs, Same H1 H → H D = some (.lst xs) → DpAll K H xs ((List.range n).map fd) → Qd H) :
    ∃ W : Nat → Nat → Hp → Prop, (∃ m, W 0 m (upd H1 D (.lst []))) ∧ ∀ i m H, W i m H →
      (J.stop i H ∧ Qd H) ∨ (J.go i H ∧ ∃ Nx : Hp → Prop, (∀ H', Nx H' → ∃ m', m' < m ∧ W (i + 1) m' H') ∧ ∀ x H', J.yld i H x H' → gName k x (wipe σ vs) H' fun σ2 H2 => wipe σ2 vs = wipe σ vs ∧ tYes σ2 H2 fun b H3 =>
        if b = true then te σ2 H3 fun y H4 => ∃ acc, H4 D = some (.lst acc) ∧ acc.length < sizeLine ∧ Nx (upd H4 D (.lst (acc ++ [y]))) else Nx H3) := by
  refine lc_it w (fun i H => i ≤ n ∧ Same H1 H ∧ ∃ xs, H D = some (.lst xs) ∧ DpAll K H xs ((List.range i).map fd)) ⟨Nat.zero_le _, same_new nD, [], upd_same, .nil⟩ (fun i H _ h => hG H h.2.1) (fun i x H H' hi ⟨_, e, xs, hD, hv⟩ y => ?_) (fun H ⟨_, e, xs, hD, hv⟩ => hd H xs e hD hv)
  refine ⟨hw x, ?_⟩
  refine hs i x H H' hi e y _ fun v H'' e2 hvd => ?_
  have e3 := (hY i H x H' hi y).trans e2
  have hD3 := e3 _ _ hD
  refine ⟨_, hD3, ?_, hi, same_put (e.trans e3) nD, _, upd_same, ?_⟩
  · rw [hv.length, List.length_map, List.length_range]
    exact Nat.lt_of_lt_of_le hi (Nat.le_trans hn (by decide))
  · have im : Imk H'' (upd H'' D (.lst (xs ++ [v]))) := Imk.put hD3 rfl
    rw [List.range_succ, List.map_append]
    refine DpAll.snoc (Dp.keep im _ _ (hfz i hi) hvd) (DpAll.keep im _ _ ?_ (DpAll.mono e3 _ _ hv))
    exact frozenAll_of fun d hd => by
      obtain ⟨j, hj, rfl⟩ := List.mem_map.mp hd
      exact hfz j (Nat.lt_trans (List.mem_range.mp hj) hi)
end
theorem pj_nil {X : Cx} : PJ X [] [] := .nil
theorem pj_cons {X : Cx} {e : Expr} {t : TE} {es : List Expr} {ts : List TE} (h : PE X e t) (r : PJ X es ts) : PJ X (e :: es) (t :: ts) := .cons h r
/-- what a text's walk yields -/
theorem y_str {l : List Nat} {i : Nat} {H H' : Hp} {v : V} (h : H' = H ∧ ∃ c, (tx l).cps[i]? = some c ∧ v = .str ⟨#[c]⟩) : H' = H ∧ ∃ c, l[i]? = some c ∧ v = .str (tx [c]) := by
  obtain ⟨rfl, c, hc, rfl⟩ := h
  exact ⟨rfl, c, by rw [← tx_get]; exact hc, rfl⟩
end L2
set_option Elab.async false
set_option linter.all false
set_option maxRecDepth 100000
set_option maxHeartbeats 4000000
/-! k11: the mathematics: lines of parts, written and read. -/
namespace LW
open PySem L2
def tLETTERS : Str := "abcdefghijklmnopqrstuvwxyz"
def tFIGURES : Str := "0123456789"
def tSIGNS : Str := "abcdefghijklmnopqrstuvwxyz0123456789 -()"
def isLet (c : Nat) : Bool := decide (97 ≤ c) && decide (c ≤ 122)
def isFig (c : Nat) : Bool := decide (48 ≤ c) && decide (c ≤ 57)
def sigL : List Nat := List.range' 97 26 ++ (List.range' 48 10 ++ [32, 45, 40, 41])
def isSig (c : Nat) : Bool := decide (c ∈ sigL)
theorem let_tx : tLETTERS.cps.toList = List.range' 97 26 := by decide +kernel
theorem fig_tx : tFIGURES.cps.toList = List.range' 48 10 := by decide +kernel
theorem sig_tx : tSIGNS.cps.toList = sigL := by decide +kernel
theorem mem_let (c : Nat) : decide (c ∈ tLETTERS.cps.toList) = isLet c := by
  rw [let_tx]
  unfold isLet
  rw [← Bool.decide_and]
  congr 1
  rw [List.mem_range'_1]
  exact propext ⟨fun h => ⟨h.1, by omega⟩, fun h => ⟨h.1, by omega⟩⟩
theorem mem_fig (c : Nat) : decide (c ∈ tFIGURES.cps.toList) = isFig c := by
  rw [fig_tx]
  unfold isFig
  rw [← Bool.decide_and]
  congr 1
  rw [List.mem_range'_1]
  exact propext ⟨fun h => ⟨h.1, by omega⟩, fun h => ⟨h.1, by omega⟩⟩
theorem mem_sig (c : Nat) : decide (c ∈ tSIGNS.cps.toList) = isSig c := by
  rw [sig_tx]
  rfl
theorem sig_of_let {c : Nat} (h : isLet c = true) : isSig c = true := by
  unfold isLet at h
  simp only [Bool.and_eq_true, decide_eq_true_eq] at h
  exact decide_eq_true (List.mem_append_left _ (List.mem_range'_1.mpr ⟨h.1, by omega⟩))
theorem sig_of_fig {c : Nat} (h : isFig c = true) : isSig c = true := by
  unfold isFig at h
  simp only [Bool.and_eq_true, decide_eq_true_eq] at h
  exact decide_eq_true (List.mem_append_right _ (List.mem_append_left _ (List.mem_range'_1.mpr ⟨h.1, by omega⟩)))
def ix (c : Nat) : Nat := sigL.idxOf c
theorem occ_all : sigL.all (fun c => (Builtin.Str.occurrences tSIGNS ⟨#[c]⟩ 0 tSIGNS.length 1).head? == some (ix c)) = true := by decide +kernel
theorem occ_sig {c : Nat} (h : isSig c = true) : ∃ rest, Builtin.Str.occurrences tSIGNS ⟨#[c]⟩ 0 tSIGNS.length 1 = ix c :: rest := by
  have q := List.all_eq_true.mp occ_all c (of_decide_eq_true h)
  have e := beq_iff_eq.mp q
  cases z : Builtin.Str.occurrences tSIGNS ⟨#[c]⟩ 0 tSIGNS.length 1 with
  | nil => rw [z] at e; cases e
  | cons a r =>
    rw [z] at e
    cases e
    exact ⟨r, rfl⟩
theorem ix_lt (c : Nat) : ix c ≤ 40 := List.idxOf_le_length
def figTo (l : List Nat) : Nat → Int
  | 0 => 0
  | i + 1 => figTo l i + ((ix (l.getD i 0) : Nat) + 1) * ((i : Int) + 1)
def figN (l : List Nat) : Int := figTo l l.length % 97
theorem figN_nn (l : List Nat) : 0 ≤ figN l := Int.emod_nonneg _ (by decide)
theorem figN_lt (l : List Nat) : figN l < 97 := Int.emod_lt_of_pos _ (by decide)
/-! ### written -/
mutual
def wordD : PyData → List Nat
  | .tuple ds => 40 :: (joinL [32] (wordsD ds) ++ [41])
  | .str z => z.cps.toList
  | .int i => numL i
  | _ => []
def wordsD : List PyData → List (List Nat)
  | [] => []
  | d :: ds => wordD d :: wordsD ds
end
theorem wordsD_map : ∀ ds : List PyData, wordsD ds = ds.map wordD
  | [] => by simp [wordsD]
  | d :: ds => by simp [wordsD, wordsD_map ds]
def textE (ds : List PyData) : List Nat := joinL [32] (wordsD ds)
def chk (l : List Nat) : List Nat := numL (figN l / 10) ++ numL (figN l % 10)
def lineE (ds : List PyData) : List Nat := textE ds ++ ([32] ++ chk (textE ds))
/-! ### read -/
def nameL (l : List Nat) : Bool := decide (1 ≤ l.length) && decide (l.length ≤ 12) && isLet (l.getD 0 0) && l.all fun c => isLet c || isFig c
def digs (w : List Nat) : List Nat := if w.take 1 = [45] then w.drop 1 else w
def numIn (w : List Nat) : Option Int :=
  if (decide (1 ≤ (digs w).length) && decide ((digs w).length ≤ 9) && (digs w).all isFig) = false then none
  else if (digs w).getD 0 0 = 48 ∧ w ≠ [48] then none
  else some (if w.take 1 = [45] then -((NumText.digitsVal (digs w) : Nat) : Int) else ((NumText.digitsVal (digs w) : Nat) : Int))
def partIn (w : List Nat) : Option PyData := if nameL w = true then some (.str (tx w)) else (numIn w).map .int
def isSep (c : Nat) : Bool := decide (c = 32) || (decide (c = 40) || decide (c = 41))
def flush (f : List (List Nat)) (w : List Nat) : List (List Nat) := if w = [] then f else f ++ [w]
def scan1 (s : List (List Nat) × List Nat) (c : Nat) : List (List Nat) × List Nat :=
  if isSep c = true then (if c = 32 then flush s.1 s.2 else flush s.1 s.2 ++ [[c]], []) else (s.1, s.2 ++ [c])
def wordsIn (l : List Nat) : List (List Nat) := ((l ++ [32]).foldl scan1 ([], [])).1
/-- the rows that are open, the inmost first -/
def step1 : List (List PyData) → List Nat → Option (List (List PyData))
  | top :: rest, w =>
    if w = [40] then some ([] :: top :: rest)
    else if w = [41] then (match rest with
      | [] => none
      | r :: rest => some ((r ++ [.tuple top]) :: rest))
    else (partIn w).map fun p => (top ++ [p]) :: rest
  | [], _ => none
def runW : List (List PyData) → List (List Nat) → Option (List (List PyData))
  | rs, [] => some rs
  | rs, w :: ws => (step1 rs w).bind fun r => runW r ws
theorem runW_app : ∀ (a b : List (List Nat)) (rs : List (List PyData)), runW rs (a ++ b) = (runW rs a).bind fun r => runW r b
  | [], b, rs => rfl
  | w :: a, b, rs => by
    show (step1 rs w).bind (fun r => runW r (a ++ b)) = ((step1 rs w).bind fun r => runW r a).bind fun r => runW r b
    cases step1 rs w with
    | none => rfl
    | some r => exact runW_app a b r
def okLine (l : List Nat) : Bool := decide (3 ≤ l.length) && l.all isSig && decide (l.getD (l.length - 3) 0 = 32)
def evIn (l : List Nat) : Option (List PyData) :=
  if okLine l = false then none
  else if l.drop (l.length - 2) ≠ chk (l.take (l.length - 3)) then none
  else match runW [[]] (wordsIn (l.take (l.length - 3))) with
    | some [ds] => if lineE ds = l then some ds else none
    | _ => none
theorem evIn_line {l : List Nat} {ds : List PyData} (h : evIn l = some ds) : lineE ds = l ∧ okLine l = true ∧ l.drop (l.length - 2) = chk (l.take (l.length - 3)) := by
  unfold evIn at h
  by_cases h1 : okLine l = false
  · rw [if_pos h1] at h; cases h
  · rw [if_neg h1] at h
    by_cases h2 : l.drop (l.length - 2) ≠ chk (l.take (l.length - 3))
    · rw [if_pos h2] at h; cases h
    · rw [if_neg h2] at h
      refine ⟨?_, by simpa using h1, Classical.not_not.mp h2⟩
      split at h
      · rename_i es e
        by_cases h3 : lineE es = l
        · rw [if_pos h3] at h
          cases h
          exact h3
        · rw [if_neg h3] at h; cases h
      · cases h
/-! ### what is drawn -/
mutual
def drawn : PyData → Bool
  | .tuple ds => drawnAll ds
  | .str z => nameL z.cps.toList
  | .int i => decide (i.natAbs ≤ 999999999)
  | _ => false
def drawnAll : List PyData → Bool
  | [] => true
  | d :: ds => drawn d && drawnAll ds
end
mutual
def toks : PyData → List (List Nat)
  | .tuple ds => [40] :: (toksAll ds ++ [[41]])
  | .str z => [z.cps.toList]
  | .int i => [numL i]
  | _ => []
def toksAll : List PyData → List (List Nat)
  | [] => []
  | d :: ds => toks d ++ toksAll ds
end
/-! numbers -/
theorem dig_range {n : Nat} : ∀ c ∈ digL n, 48 ≤ c ∧ c ≤ 57 := by
  intro c hc
  obtain ⟨ch, hch, rfl⟩ := List.mem_map.mp hc
  exact PyProof.Rows.digit_range (Nat.isDigit_of_mem_toDigits (by decide) (by decide) hch)
theorem dig_ne (n : Nat) : digL n ≠ [] := by
  unfold digL
  intro h
  have e := List.map_eq_nil_iff.mp h
  have h2 := Nat.length_toDigits_pos (b := 10) (n := n)
  rw [e] at h2
  exact absurd h2 (by decide)
theorem dig_len {n : Nat} (h : n < 10 ^ 9) : (digL n).length ≤ 9 := by
  unfold digL
  rw [List.length_map]
  exact (Nat.length_toDigits_le_iff (by decide) (by decide)).mpr h
theorem dig_head : ∀ {n : Nat}, n ≠ 0 → (digL n).getD 0 0 ≠ 48 := by
  intro n
  induction n using Nat.strongRecOn with
  | _ n ih =>
    intro h
    by_cases h10 : n < 10
    · unfold digL
      rw [Nat.toDigits_of_lt_base h10]
      have key : ∀ m, m < 10 → m ≠ 0 → (Nat.digitChar m).toNat ≠ 48 := by decide
      exact key n h10 h
    · have e := Nat.toDigits_of_base_le (b := 10) (n := n) (by decide) (by omega)
      unfold digL
      rw [e]
      have ih2 := ih (n / 10) (by omega) (by omega)
      unfold digL at ih2
      cases z : Nat.toDigits 10 (n / 10) with
      | nil => exact absurd z Nat.toDigits_ne_nil
      | cons c r =>
        rw [z] at ih2
        exact ih2
theorem dig_zero : digL 0 = [48] := by decide +kernel
theorem dig_val (n : Nat) : NumText.digitsVal (digL n) = n := PySem.W.KIN.val_back n
theorem fig_dig {n : Nat} : (digL n).all isFig = true := List.all_eq_true.mpr fun c hc => by
  have h := dig_range c hc
  unfold isFig
  simp [h.1, h.2]
theorem take1_dig (n : Nat) : (digL n).take 1 ≠ [45] := by
  intro h
  have hm : (45 : Nat) ∈ digL n := List.mem_of_mem_take (i := 1) (by rw [h]; exact List.mem_singleton.mpr rfl)
  have := dig_range 45 hm
  omega
theorem num_in {i : Int} (h : i.natAbs ≤ 999999999) : numIn (numL i) = some i := by
  unfold numL
  by_cases hn : i < 0
  · rw [if_pos hn]
    have hd : digs (45 :: digL i.natAbs) = digL i.natAbs := by
      unfold digs
      rw [if_pos (by rfl)]
      rfl
    unfold numIn
    rw [hd]
    have l1 : 1 ≤ (digL i.natAbs).length := List.length_pos_iff.mpr (dig_ne _)
    have l9 := dig_len (n := i.natAbs) (by omega)
    rw [if_neg (by simp [l1, l9, fig_dig]), if_neg (fun q => dig_head (by omega) q.1), if_pos (by rfl), dig_val]
    congr 1
    omega
  · rw [if_neg hn]
    have hd : digs (digL i.toNat) = digL i.toNat := by
      unfold digs
      rw [if_neg (take1_dig _)]
    unfold numIn
    rw [hd]
    have l1 : 1 ≤ (digL i.toNat).length := List.length_pos_iff.mpr (dig_ne _)
    have l9 := dig_len (n := i.toNat) (by omega)
    rw [if_neg (by simp [l1, l9, fig_dig]), if_neg (fun q => by
      by_cases z : i.toNat = 0
      · rw [z, dig_zero] at q
        exact q.2 rfl
      · exact dig_head z q.1), if_neg (take1_dig _), dig_val]
    congr 1
    omega
theorem name_num (i : Int) : nameL (numL i) = false := by
  have hc : isLet ((numL i).getD 0 0) = false := by
    unfold numL
    by_cases hn : i < 0
    · rw [if_pos hn]
      rfl
    · rw [if_neg hn]
      cases z : digL i.toNat with
      | nil => rfl
      | cons c r =>
        have := dig_range c (by rw [z]; exact List.mem_cons_self)
        show isLet c = false
        unfold isLet
        rw [decide_eq_false (by omega)]
        rfl
  unfold nameL
  rw [hc]
  simp
theorem part_num {i : Int} (h : i.natAbs ≤ 999999999) : partIn (numL i) = some (.int i) := by
  unfold partIn
  rw [if_neg (by rw [name_num]; decide), num_in h]
  rfl
theorem part_name {l : List Nat} (h : nameL l = true) : partIn l = some (.str (tx l)) := if_pos h
/-! no separators in atoms -/
theorem sep_let {c : Nat} (h : isLet c = true) : isSep c = false := by
  unfold isLet at h
  simp only [Bool.and_eq_true, decide_eq_true_eq] at h
  unfold isSep
  rw [decide_eq_false (by omega), decide_eq_false (by omega), decide_eq_false (by omega)]
  rfl
theorem sep_fig {c : Nat} (h : isFig c = true) : isSep c = false := by
  unfold isFig at h
  simp only [Bool.and_eq_true, decide_eq_true_eq] at h
  unfold isSep
  rw [decide_eq_false (by omega), decide_eq_false (by omega), decide_eq_false (by omega)]
  rfl
theorem name_parts {l : List Nat} (h : nameL l = true) : 1 ≤ l.length ∧ l.length ≤ 12 ∧ isLet (l.getD 0 0) = true ∧ ∀ c ∈ l, isLet c = true ∨ isFig c = true := by
  unfold nameL at h
  simp only [Bool.and_eq_true, decide_eq_true_eq] at h
  refine ⟨h.1.1.1, h.1.1.2, h.1.2, fun c hc => ?_⟩
  have := List.all_eq_true.mp h.2 c hc
  simpa using this
theorem num_chars {i : Int} : ∀ c ∈ numL i, c = 45 ∨ isFig c = true := by
  intro c hc
  unfold numL at hc
  by_cases hn : i < 0
  · rw [if_pos hn] at hc
    rcases List.mem_cons.mp hc with rfl | hc
    · exact .inl rfl
    · exact .inr (List.all_eq_true.mp fig_dig c hc)
  · rw [if_neg hn] at hc
    exact .inr (List.all_eq_true.mp fig_dig c hc)
theorem num_ne (i : Int) : numL i ≠ [] := by
  unfold numL
  by_cases hn : i < 0
  · rw [if_pos hn]
    exact List.cons_ne_nil _ _
  · rw [if_neg hn]
    exact dig_ne _
theorem scan_atom : ∀ (w : List Nat) (f : List (List Nat)) (v : List Nat), (∀ c ∈ w, isSep c = false) → w.foldl scan1 (f, v) = (f, v ++ w)
  | [], f, v, _ => by simp
  | c :: w, f, v, h => by
    rw [List.foldl_cons]
    have e : scan1 (f, v) c = (f, v ++ [c]) := by
      unfold scan1
      rw [if_neg (by rw [h c List.mem_cons_self]; decide)]
    rw [e, scan_atom w f (v ++ [c]) fun d hd => h d (List.mem_cons_of_mem _ hd)]
    simp
theorem scan_flush (f : List (List Nat)) (w : List Nat) {c : Nat} (h : isSep c = true) : scan1 (f, w) c = scan1 (flush f w, []) c := by
  unfold scan1
  rw [if_pos h, if_pos h]
  simp [flush]
/-- a word is scanned, the rest pending -/
def Scans (w : List Nat) (t : List (List Nat)) : Prop := ∀ f : List (List Nat), ∃ g v, w.foldl scan1 (f, []) = (g, v) ∧ flush g v = f ++ t
theorem scans_atom {w : List Nat} (h : ∀ c ∈ w, isSep c = false) (hn : w ≠ []) : Scans w [w] := fun f => ⟨f, w, by rw [scan_atom w f [] h]; simp, by simp [flush, hn]⟩
theorem scans_join : ∀ {ws : List (List Nat)} {ts : List (List (List Nat))}, All2 Scans ws ts → Scans (joinL [32] ws) ts.flatten
  | [], _, .nil => fun f => ⟨f, [], rfl, by simp [flush]⟩
  | [w], _, .cons h .nil => fun f => by
    obtain ⟨g, v, e1, e2⟩ := h f
    exact ⟨g, v, e1, by simpa using e2⟩
  | w :: w2 :: ws, _, .cons (b := t) (bs := ts) h hr => fun f => by
    obtain ⟨g, v, e1, e2⟩ := h f
    obtain ⟨g2, v2, e3, e4⟩ := scans_join hr (f ++ t)
    refine ⟨g2, v2, ?_, ?_⟩
    · rw [joinL, List.foldl_append, List.foldl_append, e1]
      show (joinL [32] (w2 :: ws)).foldl scan1 (scan1 (g, v) 32) = (g2, v2)
      rw [scan_flush g v (by decide), e2]
      have e5 : scan1 (f ++ t, []) 32 = (f ++ t, []) := by
        unfold scan1
        rw [if_pos (by decide), if_pos rfl]
        simp [flush]
      rw [e5, e3]
    · rw [e4]
      simp
theorem flat_toks : ∀ ds : List PyData, (ds.map toks).flatten = toksAll ds
  | [] => by simp [toksAll]
  | d :: ds => by simp [toksAll, flat_toks ds]
mutual
theorem scans_d : ∀ d : PyData, drawn d = true → Scans (wordD d) (toks d)
  | .tuple ds, h => fun f => by
    have hs := scans_ds ds (by simpa [drawn] using h)
    obtain ⟨g, v, e1, e2⟩ := scans_join hs (f ++ [[40]])
    refine ⟨f ++ [[40]] ++ toksAll ds ++ [[41]], [], ?_, ?_⟩
    · rw [wordD, List.foldl_cons, List.foldl_append]
      have e5 : scan1 (f, []) 40 = (f ++ [[40]], []) := by
        unfold scan1
        rw [if_pos (by decide), if_neg (by decide)]
        simp [flush]
      rw [e5, e1]
      show scan1 (g, v) 41 = _
      rw [scan_flush g v (by decide), e2]
      unfold scan1
      rw [if_pos (by decide), if_neg (by decide)]
      simp [flush, flat_toks]
    · simp [flush, toks]
  | .str z, h => by
    have n := name_parts (show nameL z.cps.toList = true by simpa [drawn] using h)
    rw [wordD, toks]
    exact scans_atom (fun c hc => (n.2.2.2 c hc).elim sep_let sep_fig) (fun e => by rw [e] at n; exact absurd n.1 (by decide))
  | .int i, h => by
    rw [wordD, toks]
    exact scans_atom (fun c hc => (num_chars c hc).elim (fun e => by rw [e]; decide) sep_fig) (num_ne i)
  | .none, h => by simp [drawn] at h
  | .bool _, h => by simp [drawn] at h
  | .list _, h => by simp [drawn] at h
  | .dict _, h => by simp [drawn] at h
theorem scans_ds : ∀ ds : List PyData, drawnAll ds = true → All2 Scans (wordsD ds) (ds.map toks)
  | [], _ => by rw [wordsD]; exact .nil
  | d :: ds, h => by
    simp [drawnAll] at h
    rw [wordsD]
    exact .cons (scans_d d h.1) (scans_ds ds h.2)
end

theorem name_ne {l : List Nat} (h : nameL l = true) : l ≠ [40] ∧ l ≠ [41] := by
  have n := name_parts h
  constructor <;> (intro e; rw [e] at n; exact absurd n.2.2.1 (by decide))
theorem num_nep (i : Int) : numL i ≠ [40] ∧ numL i ≠ [41] := by
  constructor
  · intro e
    rcases num_chars (i := i) 40 (by rw [e]; exact List.mem_singleton.mpr rfl) with q | q <;> exact absurd q (by decide)
  · intro e
    rcases num_chars (i := i) 41 (by rw [e]; exact List.mem_singleton.mpr rfl) with q | q <;> exact absurd q (by decide)
theorem step1_cons (top : List PyData) (rest : List (List PyData)) (w : List Nat) : step1 (top :: rest) w = if w = [40] then some ([] :: top :: rest) else if w = [41] then (match rest with
      | [] => none
      | r :: rest => some ((r ++ [.tuple top]) :: rest)) else (partIn w).map fun p => (top ++ [p]) :: rest := rfl
theorem run_atom {top : List PyData} {rest : List (List PyData)} {w : List Nat} {p : PyData} {ws : List (List Nat)} (h0 : w ≠ [40] ∧ w ≠ [41]) (hp : partIn w = some p) : runW (top :: rest) ([w] ++ ws) = runW ((top ++ [p]) :: rest) ws := by
  show (step1 (top :: rest) w).bind (fun r => runW r ws) = _
  rw [step1_cons, if_neg h0.1, if_neg h0.2, hp]
  rfl
mutual
theorem run_d : ∀ (d : PyData) (top : List PyData) (rest : List (List PyData)) (ws : List (List Nat)), drawn d = true → runW (top :: rest) (toks d ++ ws) = runW ((top ++ [d]) :: rest) ws
  | .tuple ds, top, rest, ws, h => by
    have e := run_ds ds [] (top :: rest) ([[41]] ++ ws) (by simpa [drawn] using h)
    rw [toks, List.cons_append, List.append_assoc]
    show (step1 (top :: rest) [40]).bind (fun r => runW r (toksAll ds ++ ([[41]] ++ ws))) = _
    have e1 : step1 (top :: rest) [40] = some ([] :: top :: rest) := by
      rw [step1_cons, if_pos rfl]
    rw [e1]
    show runW ([] :: top :: rest) (toksAll ds ++ ([[41]] ++ ws)) = _
    rw [e, List.nil_append]
    show (step1 (ds :: top :: rest) [41]).bind (fun r => runW r ws) = _
    have e2 : step1 (ds :: top :: rest) [41] = some ((top ++ [.tuple ds]) :: rest) := by
      rw [step1_cons, if_neg (by decide), if_pos rfl]
    rw [e2]
    rfl
  | .str z, top, rest, ws, h => by
    have n : nameL z.cps.toList = true := by simpa [drawn] using h
    rw [toks, run_atom (name_ne n) (part_name n), tx_of]
  | .int i, top, rest, ws, h => by
    rw [toks, run_atom (num_nep i) (part_num (by simpa [drawn] using h))]
  | .none, _, _, _, h => by simp [drawn] at h
  | .bool _, _, _, _, h => by simp [drawn] at h
  | .list _, _, _, _, h => by simp [drawn] at h
  | .dict _, _, _, _, h => by simp [drawn] at h
theorem run_ds : ∀ (ds : List PyData) (top : List PyData) (rest : List (List PyData)) (ws : List (List Nat)), drawnAll ds = true → runW (top :: rest) (toksAll ds ++ ws) = runW ((top ++ ds) :: rest) ws
  | [], top, rest, ws, _ => by simp [toksAll]
  | d :: ds, top, rest, ws, h => by
    simp [drawnAll] at h
    rw [toksAll, List.append_assoc, run_d d top rest _ h.1, run_ds ds _ rest ws h.2]
    simp
end
theorem words_text {ds : List PyData} (h : drawnAll ds = true) : wordsIn (textE ds) = toksAll ds := by
  obtain ⟨g, v, e1, e2⟩ := scans_join (scans_ds ds h) []
  unfold wordsIn textE
  rw [List.foldl_append, e1]
  show (scan1 (g, v) 32).1 = _
  unfold scan1
  rw [if_pos (by decide), if_pos rfl]
  show flush g v = _
  rw [e2, flat_toks]
  rfl
/-! what is written: its signs, its size -/
theorem sig_num {i : Int} : ∀ c ∈ numL i, isSig c = true := fun c hc => (num_chars c hc).elim (fun e => by rw [e]; decide) sig_of_fig
theorem sig_join {sep : List Nat} (hs : ∀ c ∈ sep, isSig c = true) : ∀ {ws : List (List Nat)}, (∀ w ∈ ws, ∀ c ∈ w, isSig c = true) → ∀ c ∈ joinL sep ws, isSig c = true
  | [], _, c, h => by cases h
  | [w], hw, c, h => hw w List.mem_cons_self c h
  | w :: w2 :: ws, hw, c, h => by
    rw [joinL] at h
    rcases List.mem_append.mp h with h | h
    · rcases List.mem_append.mp h with h | h
      · exact hw w List.mem_cons_self c h
      · exact hs c h
    · exact sig_join hs (fun x hx => hw x (List.mem_cons_of_mem _ hx)) c h
mutual
theorem sig_d : ∀ d : PyData, drawn d = true → ∀ c ∈ wordD d, isSig c = true
  | .tuple ds, h => fun c hc => by
    have hs := sig_ds ds (by simpa [drawn] using h)
    rw [wordD] at hc
    rcases List.mem_cons.mp hc with rfl | hc
    · decide
    rcases List.mem_append.mp hc with hc | hc
    · exact sig_join (by decide) hs c hc
    · rw [List.mem_singleton.mp hc]
      decide
  | .str z, h => fun c hc => by
    have n := name_parts (show nameL z.cps.toList = true by simpa [drawn] using h)
    rw [wordD] at hc
    exact (n.2.2.2 c hc).elim sig_of_let sig_of_fig
  | .int i, _ => fun c hc => by
    rw [wordD] at hc
    exact sig_num c hc
  | .none, h => by simp [drawn] at h
  | .bool _, h => by simp [drawn] at h
  | .list _, h => by simp [drawn] at h
  | .dict _, h => by simp [drawn] at h
theorem sig_ds : ∀ ds : List PyData, drawnAll ds = true → ∀ w ∈ wordsD ds, ∀ c ∈ w, isSig c = true
  | [], _ => fun w hw => by rw [wordsD] at hw; cases hw
  | d :: ds, h => fun w hw => by
    simp [drawnAll] at h
    rw [wordsD] at hw
    rcases List.mem_cons.mp hw with rfl | hw
    · exact sig_d d h.1
    · exact sig_ds ds h.2 w hw
end
theorem num_one {k : Int} (h0 : 0 ≤ k) (h1 : k < 10) : (numL k).length = 1 := by
  obtain ⟨m, rfl⟩ := Int.eq_ofNat_of_zero_le h0
  have hm : m < 10 := by omega
  unfold numL
  rw [if_neg (by omega)]
  show (digL m).length = 1
  have key : ∀ m, m < 10 → (digL m).length = 1 := by decide +kernel
  exact key m hm
theorem chk_len (l : List Nat) : (chk l).length = 2 := by
  have h0 := figN_nn l
  have h1 := figN_lt l
  unfold chk
  rw [List.length_append, num_one (by omega) (by omega), num_one (by omega) (by omega)]
theorem line_len (ds : List PyData) : (lineE ds).length = (textE ds).length + 3 := by
  unfold lineE
  rw [List.length_append, List.length_append, chk_len]
  rfl
theorem line_take (ds : List PyData) : (lineE ds).take ((lineE ds).length - 3) = textE ds := by
  rw [line_len, Nat.add_sub_cancel]
  unfold lineE
  exact List.take_left
theorem line_drop (ds : List PyData) : (lineE ds).drop ((lineE ds).length - 2) = chk (textE ds) := by
  rw [line_len]
  unfold lineE
  rw [show (textE ds).length + 3 - 2 = (textE ds).length + 1 by omega, ← List.append_assoc, List.drop_left' (by simp)]
theorem line_ok {ds : List PyData} (h : drawnAll ds = true) : okLine (lineE ds) = true := by
  unfold okLine
  have hs : (lineE ds).all isSig = true := List.all_eq_true.mpr fun c hc => by
    unfold lineE at hc
    rcases List.mem_append.mp hc with hc | hc
    · exact sig_join (by decide) (sig_ds ds h) c hc
    · rcases List.mem_append.mp hc with hc | hc
      · rw [List.mem_singleton.mp hc]
        decide
      · unfold chk at hc
        rcases List.mem_append.mp hc with hc | hc <;> exact sig_num c hc
  have hg : (lineE ds).getD ((lineE ds).length - 3) 0 = 32 := by
    rw [line_len, Nat.add_sub_cancel]
    unfold lineE
    rw [List.getD_eq_getElem?_getD, List.getElem?_append_right (Nat.le_refl _), Nat.sub_self]
    rfl
  rw [hs, hg, decide_eq_true (show 3 ≤ (lineE ds).length by rw [line_len]; omega)]
  rfl
theorem evIn_drawn {ds : List PyData} (h : drawnAll ds = true) : evIn (lineE ds) = some ds := by
  unfold evIn
  rw [if_neg (by rw [line_ok h]; decide), line_take, line_drop, if_neg (fun q => q rfl), words_text h]
  have e := run_ds ds [] [] [] h
  rw [List.append_nil, List.nil_append] at e
  rw [e]
  show (match some [ds] with | some [ds'] => if lineE ds' = lineE ds then some ds' else none | _ => none) = _
  simp
end LW
set_option Elab.async false
set_option linter.all false
set_option maxRecDepth 100000
set_option maxHeartbeats 4000000
/-! k11: sizes and depths. -/
namespace LW
open PySem L2
def evOk : Nat → PyData → Prop
  | _ + 1, .int i => i.natAbs ≤ 999999999
  | _ + 1, .str z => 1 ≤ z.cps.toList.length ∧ z.cps.toList.length ≤ 12 ∧ PyData.strOk z = true
  | n + 1, .tuple ds => ∀ e ∈ ds, evOk n e
  | _, _ => False
theorem evOk_succ : ∀ {n : Nat} {d : PyData}, evOk n d → evOk (n + 1) d
  | _ + 1, .int _, h => h
  | _ + 1, .str _, h => h
  | n + 1, .tuple ds, h => fun e he => evOk_succ (h e he)
theorem evOk_le {m n : Nat} {d : PyData} (h : evOk m d) (l : m ≤ n) : evOk n d := by
  induction l with
  | refl => exact h
  | step _ ih => exact evOk_succ ih
theorem num_len {i : Int} (h : i.natAbs ≤ 999999999) : (numL i).length ≤ 10 := by
  unfold numL
  by_cases hn : i < 0
  · rw [if_pos hn, List.length_cons]
    have := dig_len (n := i.natAbs) (by omega)
    omega
  · rw [if_neg hn]
    have := dig_len (n := i.toNat) (by omega)
    omega
theorem wt_pos : ∀ {n : Nat} {d : PyData}, evOk n d → 1 ≤ (wordD d).length
  | _ + 1, .int i, _ => by
    rw [wordD]
    exact List.length_pos_iff.mpr (num_ne i)
  | _ + 1, .str z, h => by
    rw [wordD]
    exact h.1
  | n + 1, .tuple ds, _ => by
    rw [wordD, List.length_cons]
    omega
/-- the words of a row, each with a blank -/
def sumW (ds : List PyData) : Nat := (ds.map fun d => (wordD d).length + 1).sum
theorem sumW_app (a b : List PyData) : sumW (a ++ b) = sumW a + sumW b := by simp [sumW]
theorem join_len : ∀ ds : List PyData, (joinL [32] (wordsD ds)).length ≤ sumW ds ∧ sumW ds ≤ (joinL [32] (wordsD ds)).length + 1
  | [] => by simp [wordsD, joinL, sumW]
  | [d] => by simp [wordsD, joinL, sumW]
  | d :: e :: ds => by
    have ih := join_len (e :: ds)
    simp only [wordsD, joinL, List.length_append, sumW, List.map_cons, List.sum_cons, List.length_singleton] at ih ⊢
    omega
theorem wt_tuple (ds : List PyData) : (wordD (.tuple ds)).length = (textE ds).length + 2 := by
  rw [wordD, List.length_cons, List.length_append]
  rfl
theorem mem_sumW {d : PyData} : ∀ {ds : List PyData}, d ∈ ds → (wordD d).length + 1 ≤ sumW ds
  | x :: ds, h => by
    simp only [sumW, List.map_cons, List.sum_cons]
    rcases List.mem_cons.mp h with rfl | h
    · omega
    · have := mem_sumW h
      simp only [sumW] at this
      omega
theorem len_sumW : ∀ ds : List PyData, ds.length ≤ sumW ds
  | [] => Nat.zero_le _
  | d :: ds => by
    have := len_sumW ds
    simp only [sumW, List.map_cons, List.sum_cons, List.length_cons] at this ⊢
    omega
/-- as data -/
theorem ev_okd : ∀ {n : Nat} {d : PyData}, evOk n d → (wordD d).length ≤ 100000 → okd n d
  | _ + 1, .int _, _, _ => trivial
  | _ + 1, .str _, h, _ => h.2.2
  | n + 1, .tuple ds, h, hw => by
    rw [wt_tuple] at hw
    have j := join_len ds
    have l := len_sumW ds
    unfold textE at hw
    refine ⟨by omega, fun e he => ev_okd (h e he) ?_⟩
    have := mem_sumW he
    omega
theorem ev_frozen : ∀ {n : Nat} {d : PyData}, evOk n d → frozen d = true
  | _ + 1, .int _, _ => by simp [frozen]
  | _ + 1, .str _, _ => by simp [frozen]
  | n + 1, .tuple ds, h => by
    rw [frozen]
    have key : ∀ (l : List PyData), (∀ e ∈ l, frozen e = true) → frozenAll l = true := by
      intro l
      induction l with
      | nil => intro _; rfl
      | cons x l ih => intro hl; simp [frozenAll, hl x List.mem_cons_self, ih fun e he => hl e (List.mem_cons_of_mem _ he)]
    exact key ds fun e he => ev_frozen (h e he)
/-! ### what the reader makes -/
theorem digs_val : ∀ (l : List Nat) (a : Nat), (∀ c ∈ l, 48 ≤ c ∧ c ≤ 57) → l.foldl (fun acc c => acc * 10 + (c - 48)) a < (a + 1) * 10 ^ l.length
  | [], a, _ => by simp
  | c :: l, a, h => by
    have hc := h c List.mem_cons_self
    have ih := digs_val l (a * 10 + (c - 48)) fun d hd => h d (List.mem_cons_of_mem _ hd)
    rw [List.foldl_cons, List.length_cons, Nat.pow_succ]
    have e : (a * 10 + (c - 48) + 1) * 10 ^ l.length ≤ ((a + 1) * 10) * 10 ^ l.length := Nat.mul_le_mul_right _ (by omega)
    have e2 : (a + 1) * (10 ^ l.length * 10) = ((a + 1) * 10) * 10 ^ l.length := by
      rw [Nat.mul_comm (10 ^ l.length) 10, Nat.mul_assoc]
    omega
theorem numIn_ok {w : List Nat} {i : Int} (h : numIn w = some i) : i.natAbs ≤ 999999999 := by
  unfold numIn at h
  by_cases h1 : (decide (1 ≤ (digs w).length) && decide ((digs w).length ≤ 9) && (digs w).all isFig) = false
  · rw [if_pos h1] at h; cases h
  · rw [if_neg h1] at h
    have h1' : (decide (1 ≤ (digs w).length) && decide ((digs w).length ≤ 9) && (digs w).all isFig) = true := by revert h1; cases (decide (1 ≤ (digs w).length) && decide ((digs w).length ≤ 9) && (digs w).all isFig) <;> simp
    simp only [Bool.and_eq_true, decide_eq_true_eq] at h1'
    have hd : ∀ c ∈ digs w, 48 ≤ c ∧ c ≤ 57 := fun c hc => by
      have := List.all_eq_true.mp h1'.2 c hc
      unfold isFig at this
      simpa using this
    have hv : NumText.digitsVal (digs w) < 10 ^ 9 := by
      have e := digs_val (digs w) 0 hd
      have p : 10 ^ (digs w).length ≤ 10 ^ 9 := Nat.pow_le_pow_right (by decide) h1'.1.2
      unfold NumText.digitsVal
      omega
    by_cases h2 : (digs w).getD 0 0 = 48 ∧ w ≠ [48]
    · rw [if_pos h2] at h; cases h
    · rw [if_neg h2] at h
      have e := Option.some.inj h
      by_cases h3 : w.take 1 = [45]
      · rw [if_pos h3] at e
        omega
      · rw [if_neg h3] at e
        omega
theorem name_str {l : List Nat} (h : nameL l = true) : PyData.strOk (tx l) = true := by
  have n := name_parts h
  unfold PyData.strOk
  rw [← Array.all_toList]
  refine List.all_eq_true.mpr fun c hc => ?_
  rw [tx_list] at hc
  rcases n.2.2.2 c hc with q | q
  · unfold isLet at q
    simp only [Bool.and_eq_true, decide_eq_true_eq] at q
    exact decide_eq_true (by omega)
  · unfold isFig at q
    simp only [Bool.and_eq_true, decide_eq_true_eq] at q
    exact decide_eq_true (by omega)
theorem partIn_ok {w : List Nat} {p : PyData} (h : partIn w = some p) (n : Nat) : evOk (n + 1) p ∧ (wordD p).length ≤ 12 := by
  unfold partIn at h
  by_cases hn : nameL w = true
  · rw [if_pos hn] at h
    cases h
    have q := name_parts hn
    refine ⟨⟨by rw [tx_list]; exact q.1, by rw [tx_list]; exact q.2.1, name_str hn⟩, ?_⟩
    rw [wordD, tx_list]
    exact q.2.1
  · rw [if_neg hn] at h
    cases z : numIn w with
    | none => rw [z] at h; cases h
    | some i =>
      rw [z] at h
      cases h
      have q := numIn_ok z
      refine ⟨q, ?_⟩
      rw [wordD]
      have := num_len q
      omega
/-- rows that are open: their parts' depths -/
def rowsOk (N : Nat) : List (List PyData) → Prop
  | [] => True
  | top :: rest => (∀ d ∈ top, evOk (N - rest.length) d) ∧ rowsOk N rest
def phi (rs : List (List PyData)) : Nat := (rs.map fun r => sumW r + 2).sum
def opens (ws : List (List Nat)) : Nat := ws.countP fun w => decide (w = [40])
theorem run_ok {N : Nat} : ∀ (ws : List (List Nat)) (rs rs' : List (List PyData)), runW rs ws = some rs' → rs ≠ [] → rowsOk N rs → opens ws + rs.length ≤ N → rowsOk N rs' ∧ phi rs' ≤ phi rs + 13 * ws.length ∧ rs' ≠ []
  | [], rs, rs', h, hne, hr, _ => by
    cases h
    exact ⟨hr, by simp, hne⟩
  | w :: ws, [], rs', h, hne, _, _ => absurd rfl hne
  | w :: ws, top :: rest, rs', h, hne, hr, ho => by
    have h' : (step1 (top :: rest) w).bind (fun r => runW r ws) = some rs' := h
    cases e : step1 (top :: rest) w with
    | none => rw [e] at h'; cases h'
    | some r1 =>
      rw [e] at h'
      have h2 : runW r1 ws = some rs' := h'
      rw [step1_cons] at e
      have fin : r1 ≠ [] → rowsOk N r1 → opens ws + r1.length ≤ N → phi r1 ≤ phi (top :: rest) + 13 → rowsOk N rs' ∧ phi rs' ≤ phi (top :: rest) + 13 * (w :: ws).length ∧ rs' ≠ [] := fun a b c d => by
        obtain ⟨x, y, z⟩ := run_ok ws r1 rs' h2 a b c
        exact ⟨x, by rw [List.length_cons]; omega, z⟩
      have hop : opens (w :: ws) = opens ws + (if w = [40] then 1 else 0) := by
        unfold opens
        rw [List.countP_cons]
        simp
      by_cases w1 : w = [40]
      · rw [if_pos w1] at e
        cases e
        rw [hop, if_pos w1] at ho
        refine fin (List.cons_ne_nil _ _) ⟨(fun d hd => nomatch hd), hr⟩ (by simp only [List.length_cons] at ho ⊢; omega) ?_
        simp only [phi, List.map_cons, List.sum_cons, sumW, List.map_nil, List.sum_nil]
        omega
      · rw [if_neg w1] at e
        rw [hop, if_neg w1] at ho
        by_cases w2 : w = [41]
        · rw [if_pos w2] at e
          cases rest with
          | nil => cases e
          | cons r rest =>
            cases e
            obtain ⟨a, b, c⟩ := hr
            refine fin (List.cons_ne_nil _ _) ⟨fun d hd => ?_, c⟩ (by simp only [List.length_cons] at ho ⊢; omega) ?_
            · rcases List.mem_append.mp hd with hd | hd
              · exact b d hd
              · rw [List.mem_singleton.mp hd]
                simp only [List.length_cons] at a ho
                obtain ⟨m, hm⟩ : ∃ m, N - rest.length = m + 1 := ⟨N - rest.length - 1, by omega⟩
                rw [hm]
                intro e he
                have := a e he
                rwa [show N - (rest.length + 1) = m by omega] at this
            · have j := join_len top
              have t := wt_tuple top
              unfold textE at t
              simp only [phi, List.map_cons, List.sum_cons, sumW_app]
              have e1 : sumW [PyData.tuple top] = (wordD (.tuple top)).length + 1 := by simp [sumW]
              rw [e1, t]
              omega
        · rw [if_neg w2] at e
          cases hp : partIn w with
          | none => rw [hp] at e; cases e
          | some p =>
            rw [hp] at e
            cases e
            simp only [List.length_cons] at ho
            obtain ⟨m, hm⟩ : ∃ m, N - rest.length = m + 1 := ⟨N - rest.length - 1, by omega⟩
            have q := partIn_ok hp m
            refine fin (List.cons_ne_nil _ _) ⟨fun d hd => ?_, hr.2⟩ (by simp only [List.length_cons]; omega) ?_
            · rcases List.mem_append.mp hd with hd | hd
              · exact hr.1 d hd
              · rw [List.mem_singleton.mp hd, hm]
                exact q.1
            · simp only [phi, List.map_cons, List.sum_cons, sumW_app]
              have e1 : sumW [p] = (wordD p).length + 1 := by simp [sumW]
              rw [e1]
              have := q.2
              omega
/-! words of a text: how many -/
structure ScanOk (l : List Nat) (s : List (List Nat) × List Nat) : Prop where
  op : opens s.1 = l.count 40
  pend : ∀ c ∈ s.2, isSep c = false
  len : s.1.length + (if s.2 = [] then 0 else 1) ≤ 2 * l.length
theorem scan_ok : ∀ (l : List Nat), ScanOk l (l.foldl scan1 ([], [])) := by
  intro l
  suffices H : ∀ (post pre : List Nat) (s : List (List Nat) × List Nat), ScanOk pre s → ScanOk (pre ++ post) (post.foldl scan1 s) by
    have := H l [] ([], []) ⟨rfl, (fun c hc => nomatch hc), by simp⟩
    simpa using this
  intro post
  induction post with
  | nil => intro pre s h; simpa using h
  | cons c post ih =>
    intro pre s h
    rw [List.foldl_cons, show pre ++ c :: post = (pre ++ [c]) ++ post by simp]
    refine ih (pre ++ [c]) _ ?_
    obtain ⟨f, v⟩ := s
    obtain ⟨h1, h2, h3⟩ := h
    have of : opens (flush f v) = opens f := by
      unfold flush
      by_cases hv : v = []
      · rw [if_pos hv]
      · rw [if_neg hv]
        unfold opens
        rw [List.countP_append]
        have : ¬ v = [40] := fun e => by
          have := h2 40 (by rw [e]; exact List.mem_singleton.mpr rfl)
          exact absurd this (by decide)
        simp [this]
    have lf : (flush f v).length = f.length + (if v = [] then 0 else 1) := by
      unfold flush
      by_cases hv : v = []
      · rw [if_pos hv, if_pos hv]
        rfl
      · rw [if_neg hv, if_neg hv, List.length_append]
        rfl
    simp only at h1 h2 h3
    unfold scan1
    by_cases hs : isSep c = true
    · rw [if_pos hs]
      by_cases h32 : c = 32
      · rw [if_pos h32]
        refine ⟨?_, (fun x hx => nomatch hx), ?_⟩
        · rw [of, h1, List.count_append, h32]
          simp
        · simp only [lf, List.length_append, List.length_singleton, if_pos]
          omega
      · rw [if_neg h32]
        refine ⟨?_, (fun x hx => nomatch hx), ?_⟩
        · have : opens (flush f v ++ [[c]]) = opens (flush f v) + (if c = 40 then 1 else 0) := by
            unfold opens
            rw [List.countP_append]
            by_cases h40 : c = 40 <;> simp [h40]
          rw [this, of, h1, List.count_append]
          by_cases h40 : c = 40 <;> simp [h40]
        · simp only [lf, List.length_append, List.length_singleton, if_pos]
          omega
    · rw [if_neg hs]
      have hs' : isSep c = false := by simpa using hs
      refine ⟨?_, fun x hx => ?_, ?_⟩
      · rw [h1, List.count_append]
        have : c ≠ 40 := fun e => by rw [e] at hs'; exact absurd hs' (by decide)
        simp [this]
      · rcases List.mem_append.mp hx with hx | hx
        · exact h2 x hx
        · rw [List.mem_singleton.mp hx]
          exact hs'
      · simp only [List.length_append, List.length_singleton]
        have : ¬ v ++ [c] = [] := by simp
        rw [if_neg this]
        by_cases hv : v = []
        · rw [if_pos hv] at h3
          omega
        · rw [if_neg hv] at h3
          omega
theorem words_ok (l : List Nat) : opens (wordsIn l) = l.count 40 ∧ (wordsIn l).length ≤ 2 * l.length + 2 := by
  have h := scan_ok (l ++ [32])
  unfold wordsIn
  refine ⟨by rw [h.op, List.count_append]; simp, ?_⟩
  have := h.len
  rw [List.length_append, List.length_singleton] at this
  omega
end LW
set_option Elab.async false
set_option linter.all false
set_option maxRecDepth 100000
set_option maxHeartbeats 4000000
/-! k11: rows of parts in the heap; what the reader's rows are. -/
namespace LW
open PySem L2
theorem none_back {H G : Hp} {p : Addr} (e : Same H G) (n : G p = none) : H p = none := by
  cases z : H p with
  | none => rfl
  | some o =>
    rw [e p o z] at n
    cases n
theorem atI_neg {α : Type} {xs : List α} {k : Nat} {v : α} (h1 : 0 < k) (h2 : k ≤ xs.length) (h : xs[xs.length - k]? = some v) : atI xs (-(k : Int)) = some v := by
  unfold atI ixN
  rw [if_neg (by omega), if_pos (by omega)]
  show xs[(-(k : Int) + xs.length).toNat]? = some v
  rw [show (-(k : Int) + xs.length).toNat = xs.length - k by omega]
  exact h
mutual
theorem frozen_drawn : ∀ (d : PyData), drawn d = true → frozen d = true
  | .tuple ds, h => by
    rw [drawn] at h
    rw [frozen]
    exact frozen_drawnAll ds h
  | .str z, _ => by simp [frozen]
  | .int i, _ => by simp [frozen]
  | .none, h => by simp [drawn] at h
  | .bool b, h => by simp [drawn] at h
  | .list l, h => by simp [drawn] at h
  | .dict l, h => by simp [drawn] at h
theorem frozen_drawnAll : ∀ (ds : List PyData), drawnAll ds = true → frozenAll ds = true
  | [], _ => by rw [frozenAll]
  | d :: ds, h => by
    rw [drawnAll, Bool.and_eq_true] at h
    rw [frozenAll, frozen_drawn d h.1, frozen_drawnAll ds h.2]
    rfl
end
theorem drawnAll_app (a b : List PyData) : drawnAll (a ++ b) = (drawnAll a && drawnAll b) := by
  induction a with
  | nil => simp [drawnAll]
  | cons x a ih => simp [drawnAll, ih, Bool.and_assoc]
theorem partIn_drawn {w : List Nat} {p : PyData} (h : partIn w = some p) : drawn p = true := by
  unfold partIn at h
  by_cases hn : nameL w = true
  · rw [if_pos hn] at h
    cases h
    rw [drawn, tx_list]
    exact hn
  · rw [if_neg hn] at h
    cases z : numIn w with
    | none => rw [z] at h; cases h
    | some i =>
      rw [z] at h
      cases h
      rw [drawn]
      exact decide_eq_true (numIn_ok z)
def rowsDrawn (rs : List (List PyData)) : Prop := ∀ r ∈ rs, drawnAll r = true
theorem step_drawn {rs rs' : List (List PyData)} {w : List Nat} (h : step1 rs w = some rs') (d : rowsDrawn rs) : rowsDrawn rs' := by
  cases rs with
  | nil => cases h
  | cons top rest =>
    rw [step1_cons] at h
    have dt := d top List.mem_cons_self
    have dr : ∀ r ∈ rest, drawnAll r = true := fun r hr => d r (List.mem_cons_of_mem _ hr)
    by_cases w1 : w = [40]
    · rw [if_pos w1] at h
      cases h
      intro r hr
      rcases List.mem_cons.mp hr with rfl | hr
      · rfl
      · exact d r hr
    · rw [if_neg w1] at h
      by_cases w2 : w = [41]
      · rw [if_pos w2] at h
        cases rest with
        | nil => cases h
        | cons r0 rest =>
          cases h
          intro r hr
          rcases List.mem_cons.mp hr with rfl | hr
          · rw [drawnAll_app, dr r0 List.mem_cons_self, drawnAll, drawn, dt]
            rfl
          · exact dr r (List.mem_cons_of_mem _ hr)
      · rw [if_neg w2] at h
        cases hp : partIn w with
        | none => rw [hp] at h; cases h
        | some p =>
          rw [hp] at h
          cases h
          intro r hr
          rcases List.mem_cons.mp hr with rfl | hr
          · rw [drawnAll_app, dt, drawnAll, partIn_drawn hp]
            rfl
          · exact dr r hr
theorem run_drawn : ∀ (ws : List (List Nat)) (rs rs' : List (List PyData)), runW rs ws = some rs' → rowsDrawn rs → rowsDrawn rs'
  | [], rs, rs', h, d => by cases h; exact d
  | w :: ws, rs, rs', h, d => by
    have h' : (step1 rs w).bind (fun r => runW r ws) = some rs' := h
    cases e : step1 rs w with
    | none => rw [e] at h'; cases h'
    | some r1 =>
      rw [e] at h'
      exact run_drawn ws r1 rs' h' (step_drawn e d)
theorem run_take {ws : List (List Nat)} {i : Nat} {w : List Nat} {rs0 rs : List (List PyData)} (h : runW rs0 (ws.take i) = some rs) (hw : ws[i]? = some w) : runW rs0 (ws.take (i + 1)) = step1 rs w := by
  rw [List.take_succ, hw, runW_app, h]
  show runW rs [w] = step1 rs w
  show (step1 rs w).bind (fun r => runW r []) = _
  cases step1 rs w <;> rfl
theorem run_stuck {ws : List (List Nat)} {i : Nat} {w : List Nat} {rs0 rs : List (List PyData)} (h : runW rs0 (ws.take i) = some rs) (hw : ws[i]? = some w) (hs : step1 rs w = none) : runW rs0 ws = none := by
  have e := run_take h hw
  have := runW_app (ws.take (i + 1)) (ws.drop (i + 1)) rs0
  rw [List.take_append_drop] at this
  rw [this, e, hs]
  rfl
/-- a scan's words are no longer than its text -/
theorem scan_words : ∀ (m : List Nat) (s : List (List Nat) × List Nat) (n : Nat), (∀ w ∈ s.1, w.length ≤ n + 1) → s.2.length ≤ n → (∀ w ∈ (m.foldl scan1 s).1, w.length ≤ n + m.length + 1)
  | [], s, n, h, _ => h
  | c :: m, s, n, h, h2 => by
    rw [List.foldl_cons, List.length_cons]
    have ff : ∀ w ∈ flush s.1 s.2, w.length ≤ n + 1 := fun w hw => by
      unfold flush at hw
      split at hw
      · exact h w hw
      · rcases List.mem_append.mp hw with hw | hw
        · exact h w hw
        · rw [List.mem_singleton.mp hw]
          omega
    have key : (∀ w ∈ (scan1 s c).1, w.length ≤ n + 1 + 1) ∧ (scan1 s c).2.length ≤ n + 1 := by
      unfold scan1
      split
      · refine ⟨fun w hw => ?_, Nat.zero_le _⟩
        dsimp only at hw
        split at hw
        · have := ff w hw
          omega
        · rcases List.mem_append.mp hw with hw | hw
          · have := ff w hw
            omega
          · rw [List.mem_singleton.mp hw]
            simp
      · refine ⟨fun w hw => ?_, ?_⟩
        · have := h w hw
          omega
        · simp only [List.length_append, List.length_singleton]
          omega
    intro w hw
    have := scan_words m (scan1 s c) (n + 1) key.1 key.2 w hw
    omega
theorem words_len {l w : List Nat} (h : w ∈ wordsIn l) : w.length ≤ l.length + 2 := by
  have := scan_words (l ++ [32]) ([], []) 0 (fun w hw => nomatch hw) (Nat.le_refl _) w h
  simp only [List.length_append, List.length_singleton] at this
  omega
section
variable {K : PySem.W.Frag}
def Rws (K : PySem.W.Frag) (G : Hp) : List Addr → List (List PyData) → Prop
  | [], [] => True
  | a :: as, r :: rs => (∃ xs, G a = some (.lst xs) ∧ DpAll K G xs r) ∧ Rws K G as rs
  | _, _ => False
theorem Rws.keep {G G' : Hp} (e : Imk G G') : ∀ {as : List Addr} {rs : List (List PyData)}, Rws K G as rs → (∀ a ∈ as, G' a = G a) → rowsDrawn rs → Rws K G' as rs
  | [], [], _, _, _ => trivial
  | a :: as, r :: rs, ⟨⟨xs, h1, h2⟩, h3⟩, hk, d => ⟨⟨xs, by rw [hk a List.mem_cons_self]; exact h1, DpAll.keep e _ _ (frozen_drawnAll _ (d r List.mem_cons_self)) h2⟩, Rws.keep e h3 (fun b hb => hk b (List.mem_cons_of_mem _ hb)) fun q hq => d q (List.mem_cons_of_mem _ hq)⟩
  | [], _ :: _, h, _, _ => h.elim
  | _ :: _, [], h, _, _ => h.elim
theorem Rws.len {G : Hp} : ∀ {as : List Addr} {rs : List (List PyData)}, Rws K G as rs → as.length = rs.length
  | [], [], _ => rfl
  | a :: as, r :: rs, ⟨_, h⟩ => by rw [List.length_cons, List.length_cons, Rws.len h]
  | [], _ :: _, h => h.elim
  | _ :: _, [], h => h.elim
end
end LW
namespace LW
open PySem L2
section
variable {K : PySem.W.Frag}
theorem Rws.some {G : Hp} : ∀ {as : List Addr} {rs : List (List PyData)}, Rws K G as rs → ∀ a ∈ as, ∃ xs, G a = some (.lst xs)
  | [], [], _, a, ha => nomatch ha
  | b :: as, r :: rs, ⟨⟨xs, h1, _⟩, h⟩, a, ha => by
    rcases List.mem_cons.mp ha with rfl | ha
    · exact ⟨xs, h1⟩
    · exact Rws.some h a ha
  | [], _ :: _, h, _, _ => h.elim
  | _ :: _, [], h, _, _ => h.elim
theorem refs_cons (a : Addr) (as : List Addr) : (a :: as).reverse.map V.ref = as.reverse.map V.ref ++ [V.ref a] := by simp
theorem last_app {α : Type} (l : List α) (x : α) : (l ++ [x])[(l ++ [x]).length - 1]? = some x := by simp
theorem dp_part {G : Hp} {w : List Nat} {p : PyData} (h : partIn w = some p) : ∃ v, Dp K G v p ∧ v ≠ .non ∧ ((∃ z, v = .str z ∧ p = .str z) ∨ ∃ i, v = .int i ∧ p = .int i) := by
  unfold partIn at h
  by_cases hn : nameL w = true
  · rw [if_pos hn] at h
    cases h
    exact ⟨_, .str _, (fun q => nomatch q), .inl ⟨_, rfl, rfl⟩⟩
  · rw [if_neg hn] at h
    cases z : numIn w with
    | none => rw [z] at h; cases h
    | some i =>
      rw [z] at h
      cases h
      exact ⟨_, .int _, (fun q => nomatch q), .inr ⟨_, rfl, rfl⟩⟩
end
end LW
set_option Elab.async false
set_option linter.all false
set_option maxRecDepth 100000
set_option maxHeartbeats 4000000
/-! k11: rows of lines as data. -/
namespace LW
open PySem L2
def strsV (ws : List (List Nat)) : List V := ws.map fun x => V.str (tx x)
def strsD (ws : List (List Nat)) : List PyData := ws.map fun x => PyData.str (tx x)
theorem strs_eqv : ∀ a b : List (List Nat), PyData.eqvAll (strsD a) (strsD b) = decide (a = b)
  | [], [] => by simp [strsD, PyData.eqvAll]
  | [], y :: ys => by simp [strsD, PyData.eqvAll]
  | x :: xs, [] => by simp [strsD, PyData.eqvAll]
  | x :: xs, y :: ys => by
    have ih := strs_eqv xs ys
    unfold strsD at ih ⊢
    rw [List.map_cons, List.map_cons, PyData.eqvAll, ih, PyData.eqv]
    rw [Bool.eq_iff_iff]
    simp [tx_iff]
theorem strs_eqvT (a b : List (List Nat)) : PyData.eqv (.tuple (strsD a)) (.tuple (strsD b)) = decide (a = b) := by
  rw [PyData.eqv, strs_eqv]
def fitL (l : List Nat) : Prop := l.length ≤ 1000 ∧ l.count 40 ≤ 20
def goodL (l : List Nat) : Prop := fitL l ∧ evIn l ≠ none
def Lines (ls : List (List Nat)) : Prop := (∀ l ∈ ls, goodL l) ∧ ls.length ≤ 400
theorem sig_strOk {l : List Nat} (h : l.all isSig = true) : PyData.strOk (tx l) = true := by
  unfold PyData.strOk
  rw [← Array.all_toList]
  refine List.all_eq_true.mpr fun c hc => ?_
  rw [tx_list] at hc
  have q := List.all_eq_true.mp h c hc
  have m := of_decide_eq_true q
  have : ∀ x ∈ sigL, x < 1000 := by decide +kernel
  exact decide_eq_true (by have := this c m; omega)
theorem good_sig {l : List Nat} (h : goodL l) : l.all isSig = true := by
  cases z : evIn l with
  | none => exact absurd z h.2
  | some ds =>
    have q := (evIn_line z).2.1
    unfold okLine at q
    simp only [Bool.and_eq_true] at q
    exact q.1.2
theorem lines_okd {ls : List (List Nat)} (h : ∀ l ∈ ls, goodL l) (n : ls.length ≤ 1000) : okd 2 (.tuple (strsD ls)) := by
  refine ⟨by unfold strsD; rw [List.length_map]; omega, fun e he => ?_⟩
  obtain ⟨l, hl, rfl⟩ := List.mem_map.mp he
  exact sig_strOk (good_sig (h l hl))
theorem strs_dp {K : PySem.W.Frag} {H : Hp} : ∀ ls : List (List Nat), DpAll K H (strsV ls) (strsD ls)
  | [] => .nil
  | l :: ls => .cons (.str _) (strs_dp ls)
theorem strs_len (ls : List (List Nat)) : (strsV ls).length = ls.length := by unfold strsV; rw [List.length_map]
theorem strs_get (ls : List (List Nat)) (i : Nat) : (strsV ls)[i]? = (ls[i]?).map fun l => V.str (tx l) := by unfold strsV; rw [List.getElem?_map]
theorem strs_at {ls : List (List Nat)} {i : Nat} {x : V} (h : (strsV ls)[i]? = some x) : ∃ l, ls[i]? = some l ∧ x = .str (tx l) := by
  rw [strs_get] at h
  cases z : ls[i]? with
  | none => rw [z] at h; cases h
  | some l => rw [z] at h; cases h; exact ⟨l, rfl, rfl⟩
theorem strs_take {ls : List (List Nat)} {i : Nat} {l : List Nat} (h : ls[i]? = some l) : strsV (ls.take (i + 1)) = strsV (ls.take i) ++ [.str (tx l)] := by
  rw [List.take_succ, h]
  unfold strsV
  rw [List.map_append]
  rfl
/-- the whole of a line's sizes -/
theorem len_sum : ∀ ls : List (List Nat), (∀ l ∈ ls, goodL l) → ((ls.map tx).map (·.length)).sum ≤ 1000 * ls.length
  | [], _ => by simp
  | l :: ls, h => by
    have ih := len_sum ls fun x hx => h x (List.mem_cons_of_mem _ hx)
    have := (h l List.mem_cons_self).1.1
    simp only [List.map_cons, List.sum_cons, List.length_cons, tx_len] at ih ⊢
    omega
theorem len_sum1 : ∀ ls : List (List Nat), (∀ l ∈ ls, goodL l) → (((ls.map fun l => l ++ [10]).map tx).map (·.length)).sum ≤ 1001 * ls.length
  | [], _ => by simp
  | l :: ls, h => by
    have ih := len_sum1 ls fun x hx => h x (List.mem_cons_of_mem _ hx)
    have := (h l List.mem_cons_self).1.1
    simp only [List.map_cons, List.sum_cons, List.length_cons, tx_len, List.length_append, List.length_nil] at ih ⊢
    omega
theorem joinL_nil : ∀ ls : List (List Nat), joinL [] ls = ls.flatten
  | [] => rfl
  | [x] => by simp [joinL]
  | x :: y :: ls => by
    rw [joinL, joinL_nil (y :: ls)]
    simp
theorem ev_drawn {l : List Nat} {ds : List PyData} (h : evIn l = some ds) : drawnAll ds = true := by
  unfold evIn at h
  by_cases h1 : okLine l = false
  · rw [if_pos h1] at h; cases h
  · rw [if_neg h1] at h
    by_cases h2 : l.drop (l.length - 2) ≠ chk (l.take (l.length - 3))
    · rw [if_pos h2] at h; cases h
    · rw [if_neg h2] at h
      split at h
      · rename_i es e
        have := run_drawn _ _ _ e (fun r hr => by rw [List.mem_singleton.mp hr]; rfl) es List.mem_cons_self
        by_cases h3 : lineE es = l
        · rw [if_pos h3] at h
          cases h
          exact this
        · rw [if_neg h3] at h; cases h
      · cases h
def chainL : List (List Nat) → Int → List Int
  | [], _ => []
  | l :: ls, h => ((h * 31 + figN l) % 997) :: chainL ls ((h * 31 + figN l) % 997)
def hereL : List (List Nat) → Int → Int
  | [], h => h
  | l :: ls, h => hereL ls ((h * 31 + figN l) % 997)
theorem chainL_len : ∀ (ls : List (List Nat)) (h : Int), (chainL ls h).length = ls.length
  | [], _ => rfl
  | l :: ls, h => by rw [chainL, List.length_cons, List.length_cons, chainL_len ls]
theorem hereL_lt : ∀ (ls : List (List Nat)) (h : Int), (0 ≤ h ∧ h < 997) → (0 ≤ hereL ls h ∧ hereL ls h < 997)
  | [], _, q => q
  | l :: ls, h, _ => hereL_lt ls _ ⟨Int.emod_nonneg _ (by decide), Int.emod_lt_of_pos _ (by decide)⟩
theorem hereL_app (l : List Nat) : ∀ (ls : List (List Nat)) (h : Int), hereL (ls ++ [l]) h = (hereL ls h * 31 + figN l) % 997
  | [], h => rfl
  | x :: ls, h => hereL_app l ls _
theorem chainL_app (l : List Nat) : ∀ (ls : List (List Nat)) (h : Int), chainL (ls ++ [l]) h = chainL ls h ++ [(hereL ls h * 31 + figN l) % 997]
  | [], h => rfl
  | x :: ls, h => by
    rw [List.cons_append, chainL, chainL_app l ls, chainL, hereL, List.cons_append]
def unlikeV (a b : List (List Nat)) (m : Nat) : V := match (List.range m).find? (fun i => decide (a[i]? ≠ b[i]?)) with
  | some i => .int (i : Nat)
  | none => .non
theorem maxI (a b : Nat) : (if (b : Int) > (a : Int) then (b : Int) else (a : Int)) = ((max a b : Nat) : Int) := by
  split <;> omega
theorem unlike_at {a b : List (List Nat)} {m i : Nat} (hi : i < m) (h : ∀ j, j < i → a[j]? = b[j]?) (hn : a[i]? ≠ b[i]?) : unlikeV a b m = .int (i : Nat) := by
  unfold unlikeV
  have : (List.range m).find? (fun i => decide (a[i]? ≠ b[i]?)) = some i := by
    rw [List.find?_range_eq_some]
    refine ⟨by simpa using hn, List.mem_range.mpr hi, fun j hj => by simpa using h j hj⟩
  rw [this]
theorem unlike_none {a b : List (List Nat)} {m : Nat} (h : ∀ j, j < m → a[j]? = b[j]?) : unlikeV a b m = .non := by
  unfold unlikeV
  have : (List.range m).find? (fun i => decide (a[i]? ≠ b[i]?)) = none := by
    rw [List.find?_eq_none]
    intro j hj
    simpa using h j (List.mem_range.mp hj)
  rw [this]
theorem one_iff {a b : List (List Nat)} {i : Nat} : ((a.drop i).take 1 = (b.drop i).take 1) ↔ a[i]? = b[i]? := by
  have key : ∀ l : List (List Nat), (l.drop i).take 1 = l[i]?.toList := fun l => by
    cases h : l[i]? with
    | none => rw [List.drop_eq_nil_of_le (List.getElem?_eq_none_iff.mp h)]; rfl
    | some x =>
      obtain ⟨h1, h2⟩ := List.getElem?_eq_some_iff.mp h
      rw [List.drop_eq_getElem_cons h1, h2]
      rfl
  rw [key, key]
  cases a[i]? <;> cases b[i]? <;> simp
theorem lines_sub {ls : List (List Nat)} (h : ∀ l ∈ ls, goodL l) (i : Nat) : okd 2 (.tuple (strsD ((ls.drop i).take 1))) :=
  lines_okd (fun l hl => h l (List.mem_of_mem_drop (List.mem_of_mem_take hl))) (Nat.le_trans (List.length_take_le _ _) (by decide))
def textL (ls : List (List Nat)) : List Nat := (ls.map fun l => l ++ [10]).flatten
theorem textL_len : ∀ {ls : List (List Nat)}, (∀ l ∈ ls, goodL l) → (textL ls).length ≤ 1001 * ls.length
  | [], _ => by simp [textL]
  | l :: ls, h => by
    have ih := textL_len (ls := ls) fun x hx => h x (List.mem_cons_of_mem _ hx)
    have := (h l List.mem_cons_self).1.1
    unfold textL at ih ⊢
    simp only [List.map_cons, List.flatten_cons, List.length_cons, List.length_append, List.length_nil] at ih ⊢
    omega
theorem no_feed {l : List Nat} (h : goodL l) : 10 ∉ l := fun hm => by
  have := of_decide_eq_true (List.all_eq_true.mp (good_sig h) 10 hm)
  exact absurd this (by decide)
theorem textL_last : ∀ (ls : List (List Nat)), textL ls ≠ [] → ∃ ys, textL ls = ys ++ [10]
  | [], h => absurd rfl h
  | [l], _ => ⟨l, by simp [textL]⟩
  | l :: m :: ls, _ => by
    obtain ⟨ys, hy⟩ := textL_last (m :: ls) (by
      unfold textL
      simp)
    refine ⟨l ++ [10] ++ ys, ?_⟩
    unfold textL at hy ⊢
    rw [List.map_cons, List.flatten_cons, hy]
    simp
end LW
set_option Elab.async false
set_option linter.all false
set_option maxRecDepth 100000
set_option maxHeartbeats 8000000
/-! k11: the small defs. -/
namespace LW
open PySem L2
structure Txt (P : Program) (K : PySem.W.Frag) (mg : Str → Option Value) (F : Nat → Addr) (D : Nat → FuncData) (C : Nat → Addr) : Prop where
  z_isinstance : mg "isinstance" = none
  z_int : mg "int" = none
  z_bool : mg "bool" = none
  z_str : mg "str" = none
  z_list : mg "list" = none
  z_tuple : mg "tuple" = none
  z_len : mg "len" = none
  z_all : mg "all" = none
  z_enumerate : mg "enumerate" = none
  z_range : mg "range" = none
  z_max : mg "max" = none
  z_sorted : mg "sorted" = none
  z_repr : mg "repr" = none
  s_LETTERS : ∃ t, mg "LETTERS" = some (.str tLETTERS t)
  s_FIGURES : ∃ t, mg "FIGURES" = some (.str tFIGURES t)
  s_SIGNS : ∃ t, mg "SIGNS" = some (.str tSIGNS t)
  s_LONGEST_NAME : ∃ t, mg "LONGEST_NAME" = some (.int 12 t)
  s_MOST_LINES : ∃ t, mg "MOST_LINES" = some (.int 400 t)
  u_is_whole : Fun K "is_whole" "is_whole" s_is_whole (F 2) (D 2)
  b_is_whole : Binds K (D 2) ["value"] []
  g_is_whole : mg "is_whole" = some (.ref (F 2))
  u_is_name : Fun K "is_name" "is_name" s_is_name (F 3) (D 3)
  b_is_name : Binds K (D 3) ["value"] []
  g_is_name : mg "is_name" = some (.ref (F 3))
  u_figure : Fun K "figure" "figure" s_figure (F 4) (D 4)
  b_figure : Binds K (D 4) ["text"] []
  g_figure : mg "figure" = some (.ref (F 4))
  u_word_of : Fun K "word_of" "word_of" s_word_of (F 5) (D 5)
  b_word_of : Binds K (D 5) ["part"] []
  g_word_of : mg "word_of" = some (.ref (F 5))
  u_line_of : Fun K "line_of" "line_of" s_line_of (F 6) (D 6)
  b_line_of : Binds K (D 6) ["event"] []
  g_line_of : mg "line_of" = some (.ref (F 6))
  u_is_writable : Fun K "is_writable" "is_writable" s_is_writable (F 7) (D 7)
  b_is_writable : Binds K (D 7) ["event"] []
  g_is_writable : mg "is_writable" = some (.ref (F 7))
  u_number_in : Fun K "number_in" "number_in" s_number_in (F 8) (D 8)
  b_number_in : Binds K (D 8) ["word"] []
  g_number_in : mg "number_in" = some (.ref (F 8))
  u_part_in : Fun K "part_in" "part_in" s_part_in (F 9) (D 9)
  b_part_in : Binds K (D 9) ["word"] []
  g_part_in : mg "part_in" = some (.ref (F 9))
  u_words_in : Fun K "words_in" "words_in" s_words_in (F 10) (D 10)
  b_words_in : Binds K (D 10) ["text"] []
  g_words_in : mg "words_in" = some (.ref (F 10))
  u_event_in : Fun K "event_in" "event_in" s_event_in (F 11) (D 11)
  b_event_in : Binds K (D 11) ["line"] []
  g_event_in : mg "event_in" = some (.ref (F 11))
  u_Archive___init__ : FunD K "__init__" "Archive.__init__" (defArgs s_Archive___init__) (defBody s_Archive___init__) (defScope s_Archive___init__) [.ref (C 9)] [] (F 12) (D 12)
  b0_Archive___init__ : ∃ ds, Vals [.ref (C 9)] ds ∧ Binds K (D 12) ["self", "lines"] ds
  b_Archive___init__ : Binds K (D 12) ["self", "lines"] []
  u_Archive___len__ : Fun K "__len__" "Archive.__len__" s_Archive___len__ (F 13) (D 13)
  b_Archive___len__ : Binds K (D 13) ["self"] []
  mt_Archive___len__ : Meth K (C 2) "__len__" (F 13)
  u_Archive___eq__ : Fun K "__eq__" "Archive.__eq__" s_Archive___eq__ (F 14) (D 14)
  b_Archive___eq__ : Binds K (D 14) ["self", "other"] []
  mt_Archive___eq__ : Meth K (C 2) "__eq__" (F 14)
  u_Archive_events : Fun K "events" "Archive.events" s_Archive_events (F 15) (D 15)
  b_Archive_events : Binds K (D 15) ["self"] []
  mt_Archive_events : Meth K (C 2) "events" (F 15)
  u_Archive_with_event : Fun K "with_event" "Archive.with_event" s_Archive_with_event (F 16) (D 16)
  b_Archive_with_event : Binds K (D 16) ["self", "event"] []
  mt_Archive_with_event : Meth K (C 2) "with_event" (F 16)
  u_Archive_text : Fun K "text" "Archive.text" s_Archive_text (F 17) (D 17)
  b_Archive_text : Binds K (D 17) ["self"] []
  mt_Archive_text : Meth K (C 2) "text" (F 17)
  u_Archive_chain : Fun K "chain" "Archive.chain" s_Archive_chain (F 18) (D 18)
  b_Archive_chain : Binds K (D 18) ["self"] []
  mt_Archive_chain : Meth K (C 2) "chain" (F 18)
  u_Archive_first_unlike : Fun K "first_unlike" "Archive.first_unlike" s_Archive_first_unlike (F 19) (D 19)
  b_Archive_first_unlike : Binds K (D 19) ["self", "other"] []
  mt_Archive_first_unlike : Meth K (C 2) "first_unlike" (F 19)
  u_read_text : Fun K "read_text" "read_text" s_read_text (F 20) (D 20)
  b_read_text : Binds K (D 20) ["text"] []
  g_read_text : mg "read_text" = some (.ref (F 20))
  u_kept_lines : Fun K "kept_lines" "kept_lines" s_kept_lines (F 21) (D 21)
  b_kept_lines : Binds K (D 21) ["events"] []
  g_kept_lines : mg "kept_lines" = some (.ref (F 21))
  u__law_taken : Fun K "_law_taken" "_law_taken" s__law_taken (F 22) (D 22)
  b__law_taken : Binds K (D 22) ["row", "many"] []
  g__law_taken : mg "_law_taken" = some (.ref (F 22))
  u__law_pick : Fun K "_law_pick" "_law_pick" s__law_pick (F 23) (D 23)
  b__law_pick : Binds K (D 23) ["row", "kinds"] []
  g__law_pick : mg "_law_pick" = some (.ref (F 23))
  u__law_alike : Fun K "_law_alike" "_law_alike" s__law_alike (F 24) (D 24)
  b__law_alike : Binds K (D 24) ["found", "due"] []
  g__law_alike : mg "_law_alike" = some (.ref (F 24))
  u__law_name : Fun K "_law_name" "_law_name" s__law_name (F 25) (D 25)
  b__law_name : Binds K (D 25) ["row"] []
  g__law_name : mg "_law_name" = some (.ref (F 25))
  u__law_shuffled : Fun K "_law_shuffled" "_law_shuffled" s__law_shuffled (F 26) (D 26)
  b__law_shuffled : Binds K (D 26) ["row", "things"] []
  g__law_shuffled : mg "_law_shuffled" = some (.ref (F 26))
  u__law_feed : Fun K "_law_feed" "_law_feed" s__law_feed (F 27) (D 27)
  b__law_feed : Binds K (D 27) [] []
  g__law_feed : mg "_law_feed" = some (.ref (F 27))
  u__law_part : Fun K "_law_part" "_law_part" s__law_part (F 28) (D 28)
  b__law_part : Binds K (D 28) ["row", "depth"] []
  g__law_part : mg "_law_part" = some (.ref (F 28))
  u__law_word : Fun K "_law_word" "_law_word" s__law_word (F 29) (D 29)
  b__law_word : Binds K (D 29) ["part"] []
  g__law_word : mg "_law_word" = some (.ref (F 29))
  u__law_figure : Fun K "_law_figure" "_law_figure" s__law_figure (F 30) (D 30)
  b__law_figure : Binds K (D 30) ["text"] []
  g__law_figure : mg "_law_figure" = some (.ref (F 30))
  u__law_refused : Fun K "_law_refused" "_law_refused" s__law_refused (F 31) (D 31)
  b__law_refused : Binds K (D 31) ["made"] []
  g__law_refused : mg "_law_refused" = some (.ref (F 31))
  u_law : Fun K "law" "law" s_law (F 32) (D 32)
  b_law : Binds K (D 32) ["script"] []
  g_law : mg "law" = some (.ref (F 32))
  c_BadNote : mg "BadNote" = some (.ref (C 0))
  e_BadNote : PySem.LadX.ErrTxt P K mg "BadNote" "line" (C 0) (F 0)
  c_TooMany : mg "TooMany" = some (.ref (C 1))
  e_TooMany : PySem.LadX.ErrTxt P K mg "TooMany" "limit" (C 1) (F 1)
  c_Archive : mg "Archive" = some (.ref (C 2))
  cl_Archive : Cls K (C 2)
  m_Archive : Mk K (C 2) (F 12)
  c_LadderError : mg "LadderError" = some (.ref (C 3))
  n_Archive_lines : NoAttr K (C 2) "lines"
  x_BadNote : PySem.W.exmOne K (.ref (C 0)) (.ref (C 0)) = some true
  x_TooMany : PySem.W.exmOne K (.ref (C 1)) (.ref (C 1)) = some true
  ty_Archive : OwnTy K (C 2)
  ki_AA : PySem.W.kitOne K (.ref (C 2)) (.ref (C 2)) = some true
  ki_tA : PySem.W.kitOne K (.type "tuple") (.ref (C 2)) = some false
  nf_AA : PySem.W.notFirst K (C 2) (.ref (C 2)) = true
  nf_At : PySem.W.notFirst K (C 2) (.type "tuple") = true
  eq_Archive : EqC K (C 2) (F 14)
  len_Archive : LenC K (C 2) (F 13)
  ed : ∃ o n, K.lookup (C 9) = some o ∧ o.cls = .type "tuple" ∧ o.data = .seq #[] n
section
variable {P : Program} {w : World} {K : PySem.W.Frag} {mg : Str → Option Value} {base : Heap} {F : Nat → Addr} {D : Nat → FuncData} {C : Nat → Addr}
theorem log_lt {i : Int} (h : i.natAbs ≤ 999999999) : i.natAbs.log2 < 1920 := by
  by_cases z : i.natAbs = 0
  · rw [z]
    decide
  · exact (Nat.log2_lt z).mpr (Nat.lt_of_le_of_lt h (Nat.lt_of_lt_of_le (by decide : 999999999 < 2 ^ 30) (Nat.pow_le_pow_right (by decide) (by decide))))
def wholeD (d : PyData) : Bool := isInt d && !isBool d
def nameD : PyData → Bool
  | .str z => nameL z.cps.toList
  | _ => false
def sp_is_whole (K : PySem.W.Frag) : Sp := fun vs H Q _ => ∃ x d, vs = [x] ∧ Dp K H x d ∧ Q (.bl (wholeD d)) H
theorem sc_is_whole : FnScope ["value"] ["value"] (defScope s_is_whole) := ⟨rfl, rfl, rfl, by decide +kernel, rfl, by decide +kernel, by decide +kernel⟩
theorem ok_is_whole (T : Txt P K mg F D C) : FnOk P w K mg base CX0 1 (F 2) (D 2) ["value"] (sp_is_whole K) := by
  refine T.u_is_whole.ok sc_is_whole (fun vs H Q E h => ?_) (fun cdv A outer s H vs Q E hr h => ?_)
  · obtain ⟨x, d, rfl, _⟩ := h
    rfl
  · obtain ⟨x, d, rfl, hx, k⟩ := h
    refine ⟨_, (pss_one (ps_ret (pe_and (pe_callB (r := rIsi K) call_isi (by rfl) T.z_isinstance (by decide +kernel) (pa_cons (pv 0) (pa_cons (pe_bltn (v := .ty "int") (by rfl) T.z_int (by decide +kernel) rfl) pa_nil))) (pe_one (pe_not (pe_callB (r := rIsi K) call_isi (by rfl) T.z_isinstance (by decide +kernel) (pa_cons (pv 0) (pa_cons (pe_bltn (v := .ty "bool") (by rfl) T.z_bool (by decide +kernel) rfl) pa_nil)))))))), ?_⟩
    refine ⟨_, rfl, _, _, .type (tyName d), _, isInt d, rfl, .ty _, tyx_d hx, kit_int d, _, rfl, ?_⟩
    refine ite2 (fun h1 => ?_) (fun h1 => ?_)
    · refine ⟨_, rfl, _, _, .type (tyName d), _, isBool d, rfl, .ty _, tyx_d hx, kit_bool d, _, rfl, ?_⟩
      have e : wholeD d = !isBool d := by unfold wholeD; rw [h1]; rfl
      rw [← e]
      exact k
    · have e : wholeD d = false := by
        unfold wholeD
        cases z : isInt d with
        | true => exact absurd z h1
        | false => rfl
      rw [← e]
      exact k
def sp_is_name (K : PySem.W.Frag) : Sp := fun vs H Q _ => ∃ x d, vs = [x] ∧ Dp K H x d ∧ (∀ z, d = .str z → z.length ≤ 100000) ∧ ∀ H', Same H H' → Q (.bl (nameD d)) H'
theorem sc_is_name : FnScope ["value", "sign"] ["value"] (defScope s_is_name) := ⟨rfl, rfl, rfl, by decide +kernel, rfl, by decide +kernel, by decide +kernel⟩
theorem ok_is_name (T : Txt P K mg F D C) : FnOk P w K mg base CX0 1 (F 3) (D 3) ["value"] (sp_is_name K) := by
  refine T.u_is_name.ok sc_is_name (fun vs H Q E h => ?_) (fun cdv A outer s H vs Q E hr h => ?_)
  · obtain ⟨x, d, rfl, _⟩ := h
    rfl
  · obtain ⟨x, d, rfl, hx, hl, k⟩ := h
    refine ⟨_, (pss_cons (ps_if (PW.pt (pw_or (pt_not (pt_val (pe_callB (r := rIsi K) call_isi (by rfl) T.z_isinstance (by decide +kernel) (pa_cons (pv 0) (pa_cons (pe_bltn (v := .ty "str") (by rfl) T.z_str (by decide +kernel) rfl) pa_nil))))) (pw_or (pt_not (pt_chain op_le op_le pe_int (pe_callB call_len_str (by rfl) T.z_len (by decide +kernel) (pa_cons (pv 0) pa_nil)) (pe_glob (v := .int 12) (by rfl) T.s_LONGEST_NAME.choose_spec ⟨_, rfl⟩))) (pw_or1 (pt_cmpR op_notIn_sign (pe_ix ix_str (pv 0) pe_int (fun _ _ => rfl)) (pe_glob (v := .str tLETTERS) (by rfl) T.s_LETTERS.choose_spec ⟨_, rfl⟩) rfl))))) (pss_one (ps_ret pe_bl))
        pss_nil)
      (pss_one (ps_ret (pe_callB (r := rAll K) (cr_all rfl) (by rfl) T.z_all (by decide +kernel) (pa_cons (pe_lc (own := [("sign", 1)]) (g := gName 1) (by rfl) sc_is_name.nd (pi_str (pv 0)) (blkOk_by (own := [("sign", 1)]) (N := ["value", "sign"]) (sc := defScope s_is_name) (by decide +kernel)) (fun _ _ _ _ _ => (pg_name (i := 1) sc_is_name.nd rfl (.inl rfl))) (fun _ _ _ _ _ => pts_nil) (fun _ _ _ _ _ => (pe_or (pe_cmpR op_in_sign (pv 1) (pe_glob (v := .str tLETTERS) (by rfl) T.s_LETTERS.choose_spec ⟨_, rfl⟩) rfl) (pe_one (pe_cmpR op_in_sign (pv 1) (pe_glob (v := .str tFIGURES) (by rfl) T.s_FIGURES.choose_spec ⟨_, rfl⟩) rfl))))) pa_nil))))), ?_⟩
    refine ⟨_, rfl, _, _, .type (tyName d), _, isStr d, rfl, .ty _, tyx_d hx, kit_str d, _, rfl, ?_⟩
    refine ite2 (fun h1 => ?_) (fun h1 => ?_)
    · have e : nameD d = false := by
        cases d <;> first | rfl | exact absurd rfl h1 | exact absurd h1 (fun q => nomatch q)
      rw [← e]
      exact k H (Same.refl H)
    · obtain ⟨z, rfl⟩ : ∃ z, d = .str z := by
        cases d <;> first | exact ⟨_, rfl⟩ | exact absurd rfl h1
      obtain ⟨l, rfl⟩ : ∃ l, z = tx l := ⟨_, (tx_of z).symm⟩
      cases hx
      have hl' := hl _ rfl
      rw [tx_len] at hl'
      have sz : (tx l).length ≤ sizeLine := by rw [tx_len]; exact Nat.le_trans hl' (by decide)
      have nE : nameD (.str (tx l)) = nameL l := by
        show nameL (tx l).cps.toList = _
        rw [tx_list]
      have out : ∀ b, nameL l = b → Q (.bl b) H := fun b e => by
        rw [← e, ← nE]
        exact k H (Same.refl H)
      repeat (first | refine ⟨_, pf (by first | rfl | assumption | exact ⟨_, rfl⟩ | exact ⟨_, by assumption⟩ | exact stO upd_same | exact sqO upd_same), ?_⟩ | refine ⟨_, _, pf (by first | rfl | assumption | exact ⟨_, rfl⟩ | exact ⟨_, by assumption⟩ | exact stO upd_same | exact sqO upd_same), ?_⟩ | refine ⟨_, _, pf (by first | rfl | assumption | exact ⟨_, rfl⟩ | exact ⟨_, by assumption⟩ | exact stO upd_same | exact sqO upd_same), pf (by first | rfl | assumption | exact ⟨_, rfl⟩ | exact ⟨_, by assumption⟩ | exact stO upd_same | exact sqO upd_same), ?_⟩ | refine ⟨_, pf (by first | rfl | assumption | exact ⟨_, rfl⟩ | exact ⟨_, by assumption⟩ | exact stO upd_same | exact sqO upd_same), pf (by first | rfl | assumption | exact ⟨_, rfl⟩ | exact ⟨_, by assumption⟩ | exact stO upd_same | exact sqO upd_same), ?_⟩ | refine ⟨_, _, _, pf (by first | rfl | assumption | exact ⟨_, rfl⟩ | exact ⟨_, by assumption⟩ | exact stO upd_same | exact sqO upd_same), pf (by first | rfl | assumption | exact ⟨_, rfl⟩ | exact ⟨_, by assumption⟩ | exact stO upd_same | exact sqO upd_same), pf (by first | rfl | assumption | exact ⟨_, rfl⟩ | exact ⟨_, by assumption⟩ | exact stO upd_same | exact sqO upd_same), pf (by first | rfl | assumption | exact ⟨_, rfl⟩ | exact ⟨_, by assumption⟩ | exact stO upd_same | exact sqO upd_same), ?_⟩ | refine ⟨_, _, _, pf (by first | rfl | assumption | exact ⟨_, rfl⟩ | exact ⟨_, by assumption⟩ | exact stO upd_same | exact sqO upd_same), pf (by first | rfl | assumption | exact ⟨_, rfl⟩ | exact ⟨_, by assumption⟩ | exact stO upd_same | exact sqO upd_same), pf (by first | rfl | assumption | exact ⟨_, rfl⟩ | exact ⟨_, by assumption⟩ | exact stO upd_same | exact sqO upd_same), ?_⟩ | refine ⟨_, _, _, pf (by first | rfl | assumption | exact ⟨_, rfl⟩ | exact ⟨_, by assumption⟩ | exact stO upd_same | exact sqO upd_same), pf (by first | rfl | assumption | exact ⟨_, rfl⟩ | exact ⟨_, by assumption⟩ | exact stO upd_same | exact sqO upd_same), ?_⟩ | refine ⟨_, _, pf (by first | rfl | assumption | exact ⟨_, rfl⟩ | exact ⟨_, by assumption⟩ | exact stO upd_same | exact sqO upd_same), pf (by first | rfl | assumption | exact ⟨_, rfl⟩ | exact ⟨_, by assumption⟩ | exact stO upd_same | exact sqO upd_same), pf (by first | rfl | assumption | exact ⟨_, rfl⟩ | exact ⟨_, by assumption⟩ | exact stO upd_same | exact sqO upd_same), ?_⟩ | refine ⟨_, _, _, _, pf (by first | rfl | assumption | exact ⟨_, rfl⟩ | exact ⟨_, by assumption⟩ | exact stO upd_same | exact sqO upd_same), pf (by first | rfl | assumption | exact ⟨_, rfl⟩ | exact ⟨_, by assumption⟩ | exact stO upd_same | exact sqO upd_same), pf (by first | rfl | assumption | exact ⟨_, rfl⟩ | exact ⟨_, by assumption⟩ | exact stO upd_same | exact sqO upd_same), ?_⟩ | refine ⟨_, _, _, _, pf (by first | rfl | assumption | exact ⟨_, rfl⟩ | exact ⟨_, by assumption⟩ | exact stO upd_same | exact sqO upd_same), pf (by first | rfl | assumption | exact ⟨_, rfl⟩ | exact ⟨_, by assumption⟩ | exact stO upd_same | exact sqO upd_same), pf (by first | rfl | assumption | exact ⟨_, rfl⟩ | exact ⟨_, by assumption⟩ | exact stO upd_same | exact sqO upd_same), pf (by first | rfl | assumption | exact ⟨_, rfl⟩ | exact ⟨_, by assumption⟩ | exact stO upd_same | exact sqO upd_same), ?_⟩ | refine ⟨pf (by first | rfl | assumption | exact ⟨_, rfl⟩ | exact ⟨_, by assumption⟩ | exact stO upd_same | exact sqO upd_same), ?_⟩)
      refine ite2 (fun h2 => ?_) (fun h2 => ?_)
      · repeat (first | refine ⟨_, pf (by first | rfl | assumption | exact ⟨_, rfl⟩ | exact ⟨_, by assumption⟩ | exact stO upd_same | exact sqO upd_same), ?_⟩ | refine ⟨_, _, pf (by first | rfl | assumption | exact ⟨_, rfl⟩ | exact ⟨_, by assumption⟩ | exact stO upd_same | exact sqO upd_same), ?_⟩ | refine ⟨_, _, pf (by first | rfl | assumption | exact ⟨_, rfl⟩ | exact ⟨_, by assumption⟩ | exact stO upd_same | exact sqO upd_same), pf (by first | rfl | assumption | exact ⟨_, rfl⟩ | exact ⟨_, by assumption⟩ | exact stO upd_same | exact sqO upd_same), ?_⟩ | refine ⟨_, pf (by first | rfl | assumption | exact ⟨_, rfl⟩ | exact ⟨_, by assumption⟩ | exact stO upd_same | exact sqO upd_same), pf (by first | rfl | assumption | exact ⟨_, rfl⟩ | exact ⟨_, by assumption⟩ | exact stO upd_same | exact sqO upd_same), ?_⟩ | refine ⟨_, _, _, pf (by first | rfl | assumption | exact ⟨_, rfl⟩ | exact ⟨_, by assumption⟩ | exact stO upd_same | exact sqO upd_same), pf (by first | rfl | assumption | exact ⟨_, rfl⟩ | exact ⟨_, by assumption⟩ | exact stO upd_same | exact sqO upd_same), pf (by first | rfl | assumption | exact ⟨_, rfl⟩ | exact ⟨_, by assumption⟩ | exact stO upd_same | exact sqO upd_same), pf (by first | rfl | assumption | exact ⟨_, rfl⟩ | exact ⟨_, by assumption⟩ | exact stO upd_same | exact sqO upd_same), ?_⟩ | refine ⟨_, _, _, pf (by first | rfl | assumption | exact ⟨_, rfl⟩ | exact ⟨_, by assumption⟩ | exact stO upd_same | exact sqO upd_same), pf (by first | rfl | assumption | exact ⟨_, rfl⟩ | exact ⟨_, by assumption⟩ | exact stO upd_same | exact sqO upd_same), pf (by first | rfl | assumption | exact ⟨_, rfl⟩ | exact ⟨_, by assumption⟩ | exact stO upd_same | exact sqO upd_same), ?_⟩ | refine ⟨_, _, _, pf (by first | rfl | assumption | exact ⟨_, rfl⟩ | exact ⟨_, by assumption⟩ | exact stO upd_same | exact sqO upd_same), pf (by first | rfl | assumption | exact ⟨_, rfl⟩ | exact ⟨_, by assumption⟩ | exact stO upd_same | exact sqO upd_same), ?_⟩ | refine ⟨_, _, pf (by first | rfl | assumption | exact ⟨_, rfl⟩ | exact ⟨_, by assumption⟩ | exact stO upd_same | exact sqO upd_same), pf (by first | rfl | assumption | exact ⟨_, rfl⟩ | exact ⟨_, by assumption⟩ | exact stO upd_same | exact sqO upd_same), pf (by first | rfl | assumption | exact ⟨_, rfl⟩ | exact ⟨_, by assumption⟩ | exact stO upd_same | exact sqO upd_same), ?_⟩ | refine ⟨_, _, _, _, pf (by first | rfl | assumption | exact ⟨_, rfl⟩ | exact ⟨_, by assumption⟩ | exact stO upd_same | exact sqO upd_same), pf (by first | rfl | assumption | exact ⟨_, rfl⟩ | exact ⟨_, by assumption⟩ | exact stO upd_same | exact sqO upd_same), pf (by first | rfl | assumption | exact ⟨_, rfl⟩ | exact ⟨_, by assumption⟩ | exact stO upd_same | exact sqO upd_same), ?_⟩ | refine ⟨_, _, _, _, pf (by first | rfl | assumption | exact ⟨_, rfl⟩ | exact ⟨_, by assumption⟩ | exact stO upd_same | exact sqO upd_same), pf (by first | rfl | assumption | exact ⟨_, rfl⟩ | exact ⟨_, by assumption⟩ | exact stO upd_same | exact sqO upd_same), pf (by first | rfl | assumption | exact ⟨_, rfl⟩ | exact ⟨_, by assumption⟩ | exact stO upd_same | exact sqO upd_same), pf (by first | rfl | assumption | exact ⟨_, rfl⟩ | exact ⟨_, by assumption⟩ | exact stO upd_same | exact sqO upd_same), ?_⟩ | refine ⟨pf (by first | rfl | assumption | exact ⟨_, rfl⟩ | exact ⟨_, by assumption⟩ | exact stO upd_same | exact sqO upd_same), ?_⟩)
        rw [tx_len] at h2
        have q1 : 1 ≤ l.length := by
          have := of_decide_eq_true h2
          omega
        refine ite2 (fun h3 => ?_) (fun h3 => ?_)
        · refine out false ?_
          rw [tx_len] at h3
          unfold nameL
          have q : ¬ l.length ≤ 12 := fun q => by
            have : decide ((l.length : Int) ≤ 12) = true := decide_eq_true (by omega)
            rw [this] at h3
            exact absurd h3 (by decide)
          rw [decide_eq_false q]
          simp
        · rw [tx_len] at h3
          have q2 : l.length ≤ 12 := by
            have : (l.length : Int) ≤ 12 := by simpa using h3
            omega
          obtain ⟨c, hc⟩ : ∃ c, l[0]? = some c := ⟨l[0], by simp [q1]⟩
          have ha : atI (tx l).cps.toList 0 = some c := by rw [tx_list]; exact atI_nat (j := 0) hc
          repeat (first | refine ⟨_, pf (by first | rfl | assumption | exact ⟨_, rfl⟩ | exact ⟨_, by assumption⟩ | exact stO upd_same | exact sqO upd_same), ?_⟩ | refine ⟨_, _, pf (by first | rfl | assumption | exact ⟨_, rfl⟩ | exact ⟨_, by assumption⟩ | exact stO upd_same | exact sqO upd_same), ?_⟩ | refine ⟨_, _, pf (by first | rfl | assumption | exact ⟨_, rfl⟩ | exact ⟨_, by assumption⟩ | exact stO upd_same | exact sqO upd_same), pf (by first | rfl | assumption | exact ⟨_, rfl⟩ | exact ⟨_, by assumption⟩ | exact stO upd_same | exact sqO upd_same), ?_⟩ | refine ⟨_, pf (by first | rfl | assumption | exact ⟨_, rfl⟩ | exact ⟨_, by assumption⟩ | exact stO upd_same | exact sqO upd_same), pf (by first | rfl | assumption | exact ⟨_, rfl⟩ | exact ⟨_, by assumption⟩ | exact stO upd_same | exact sqO upd_same), ?_⟩ | refine ⟨_, _, _, pf (by first | rfl | assumption | exact ⟨_, rfl⟩ | exact ⟨_, by assumption⟩ | exact stO upd_same | exact sqO upd_same), pf (by first | rfl | assumption | exact ⟨_, rfl⟩ | exact ⟨_, by assumption⟩ | exact stO upd_same | exact sqO upd_same), pf (by first | rfl | assumption | exact ⟨_, rfl⟩ | exact ⟨_, by assumption⟩ | exact stO upd_same | exact sqO upd_same), pf (by first | rfl | assumption | exact ⟨_, rfl⟩ | exact ⟨_, by assumption⟩ | exact stO upd_same | exact sqO upd_same), ?_⟩ | refine ⟨_, _, _, pf (by first | rfl | assumption | exact ⟨_, rfl⟩ | exact ⟨_, by assumption⟩ | exact stO upd_same | exact sqO upd_same), pf (by first | rfl | assumption | exact ⟨_, rfl⟩ | exact ⟨_, by assumption⟩ | exact stO upd_same | exact sqO upd_same), pf (by first | rfl | assumption | exact ⟨_, rfl⟩ | exact ⟨_, by assumption⟩ | exact stO upd_same | exact sqO upd_same), ?_⟩ | refine ⟨_, _, _, pf (by first | rfl | assumption | exact ⟨_, rfl⟩ | exact ⟨_, by assumption⟩ | exact stO upd_same | exact sqO upd_same), pf (by first | rfl | assumption | exact ⟨_, rfl⟩ | exact ⟨_, by assumption⟩ | exact stO upd_same | exact sqO upd_same), ?_⟩ | refine ⟨_, _, pf (by first | rfl | assumption | exact ⟨_, rfl⟩ | exact ⟨_, by assumption⟩ | exact stO upd_same | exact sqO upd_same), pf (by first | rfl | assumption | exact ⟨_, rfl⟩ | exact ⟨_, by assumption⟩ | exact stO upd_same | exact sqO upd_same), pf (by first | rfl | assumption | exact ⟨_, rfl⟩ | exact ⟨_, by assumption⟩ | exact stO upd_same | exact sqO upd_same), ?_⟩ | refine ⟨_, _, _, _, pf (by first | rfl | assumption | exact ⟨_, rfl⟩ | exact ⟨_, by assumption⟩ | exact stO upd_same | exact sqO upd_same), pf (by first | rfl | assumption | exact ⟨_, rfl⟩ | exact ⟨_, by assumption⟩ | exact stO upd_same | exact sqO upd_same), pf (by first | rfl | assumption | exact ⟨_, rfl⟩ | exact ⟨_, by assumption⟩ | exact stO upd_same | exact sqO upd_same), ?_⟩ | refine ⟨_, _, _, _, pf (by first | rfl | assumption | exact ⟨_, rfl⟩ | exact ⟨_, by assumption⟩ | exact stO upd_same | exact sqO upd_same), pf (by first | rfl | assumption | exact ⟨_, rfl⟩ | exact ⟨_, by assumption⟩ | exact stO upd_same | exact sqO upd_same), pf (by first | rfl | assumption | exact ⟨_, rfl⟩ | exact ⟨_, by assumption⟩ | exact stO upd_same | exact sqO upd_same), pf (by first | rfl | assumption | exact ⟨_, rfl⟩ | exact ⟨_, by assumption⟩ | exact stO upd_same | exact sqO upd_same), ?_⟩ | refine ⟨pf (by first | rfl | assumption | exact ⟨_, rfl⟩ | exact ⟨_, by assumption⟩ | exact stO upd_same | exact sqO upd_same), ?_⟩)
          have gd : l.getD 0 0 = c := getD_some hc
          refine ite2 (fun h4 => ?_) (fun h4 => ?_)
          · refine out false ?_
            rw [mem_let] at h4
            unfold nameL
            rw [gd]
            have : isLet c = false := by simpa using h4
            rw [this]
            simp
          · rw [mem_let] at h4
            have hlet : isLet c = true := by simpa using h4
            repeat (first | refine ⟨_, pf (by first | rfl | assumption | exact ⟨_, rfl⟩ | exact ⟨_, by assumption⟩ | exact stO upd_same | exact sqO upd_same), ?_⟩ | refine ⟨_, _, pf (by first | rfl | assumption | exact ⟨_, rfl⟩ | exact ⟨_, by assumption⟩ | exact stO upd_same | exact sqO upd_same), ?_⟩ | refine ⟨_, _, pf (by first | rfl | assumption | exact ⟨_, rfl⟩ | exact ⟨_, by assumption⟩ | exact stO upd_same | exact sqO upd_same), pf (by first | rfl | assumption | exact ⟨_, rfl⟩ | exact ⟨_, by assumption⟩ | exact stO upd_same | exact sqO upd_same), ?_⟩ | refine ⟨_, pf (by first | rfl | assumption | exact ⟨_, rfl⟩ | exact ⟨_, by assumption⟩ | exact stO upd_same | exact sqO upd_same), pf (by first | rfl | assumption | exact ⟨_, rfl⟩ | exact ⟨_, by assumption⟩ | exact stO upd_same | exact sqO upd_same), ?_⟩ | refine ⟨_, _, _, pf (by first | rfl | assumption | exact ⟨_, rfl⟩ | exact ⟨_, by assumption⟩ | exact stO upd_same | exact sqO upd_same), pf (by first | rfl | assumption | exact ⟨_, rfl⟩ | exact ⟨_, by assumption⟩ | exact stO upd_same | exact sqO upd_same), pf (by first | rfl | assumption | exact ⟨_, rfl⟩ | exact ⟨_, by assumption⟩ | exact stO upd_same | exact sqO upd_same), pf (by first | rfl | assumption | exact ⟨_, rfl⟩ | exact ⟨_, by assumption⟩ | exact stO upd_same | exact sqO upd_same), ?_⟩ | refine ⟨_, _, _, pf (by first | rfl | assumption | exact ⟨_, rfl⟩ | exact ⟨_, by assumption⟩ | exact stO upd_same | exact sqO upd_same), pf (by first | rfl | assumption | exact ⟨_, rfl⟩ | exact ⟨_, by assumption⟩ | exact stO upd_same | exact sqO upd_same), pf (by first | rfl | assumption | exact ⟨_, rfl⟩ | exact ⟨_, by assumption⟩ | exact stO upd_same | exact sqO upd_same), ?_⟩ | refine ⟨_, _, _, pf (by first | rfl | assumption | exact ⟨_, rfl⟩ | exact ⟨_, by assumption⟩ | exact stO upd_same | exact sqO upd_same), pf (by first | rfl | assumption | exact ⟨_, rfl⟩ | exact ⟨_, by assumption⟩ | exact stO upd_same | exact sqO upd_same), ?_⟩ | refine ⟨_, _, pf (by first | rfl | assumption | exact ⟨_, rfl⟩ | exact ⟨_, by assumption⟩ | exact stO upd_same | exact sqO upd_same), pf (by first | rfl | assumption | exact ⟨_, rfl⟩ | exact ⟨_, by assumption⟩ | exact stO upd_same | exact sqO upd_same), pf (by first | rfl | assumption | exact ⟨_, rfl⟩ | exact ⟨_, by assumption⟩ | exact stO upd_same | exact sqO upd_same), ?_⟩ | refine ⟨_, _, _, _, pf (by first | rfl | assumption | exact ⟨_, rfl⟩ | exact ⟨_, by assumption⟩ | exact stO upd_same | exact sqO upd_same), pf (by first | rfl | assumption | exact ⟨_, rfl⟩ | exact ⟨_, by assumption⟩ | exact stO upd_same | exact sqO upd_same), pf (by first | rfl | assumption | exact ⟨_, rfl⟩ | exact ⟨_, by assumption⟩ | exact stO upd_same | exact sqO upd_same), ?_⟩ | refine ⟨_, _, _, _, pf (by first | rfl | assumption | exact ⟨_, rfl⟩ | exact ⟨_, by assumption⟩ | exact stO upd_same | exact sqO upd_same), pf (by first | rfl | assumption | exact ⟨_, rfl⟩ | exact ⟨_, by assumption⟩ | exact stO upd_same | exact sqO upd_same), pf (by first | rfl | assumption | exact ⟨_, rfl⟩ | exact ⟨_, by assumption⟩ | exact stO upd_same | exact sqO upd_same), pf (by first | rfl | assumption | exact ⟨_, rfl⟩ | exact ⟨_, by assumption⟩ | exact stO upd_same | exact sqO upd_same), ?_⟩ | refine ⟨pf (by first | rfl | assumption | exact ⟨_, rfl⟩ | exact ⟨_, by assumption⟩ | exact stO upd_same | exact sqO upd_same), ?_⟩)
            refine fun Dl nD => lc_map walk_str nD (fun i => .bl (isLet (l.getD i 0) || isFig (l.getD i 0))) (by rw [tx_size]; omega) (fun _ _ => trivial) (fun _ _ _ _ _ y => by obtain ⟨rfl, _⟩ := y; exact Same.refl _) (fun x => rfl) (fun i x H1 H2 hi e y Q' q => ?_) (fun H1 e hD => ?_)
            · obtain ⟨rfl, d, hd, rfl⟩ := y_str y
              refine ⟨_, rfl, d, _, rfl, rfl, ?_⟩
              rw [mem_let]
              have gi : l.getD i 0 = d := getD_some hd
              rw [gi] at q
              refine ⟨_, rfl, ite2 (fun h5 => ?_) (fun h5 => ?_)⟩
              · rw [h5] at q
                exact q _ (Same.refl _)
              · have h5' : isLet d = false := by simpa using h5
                rw [h5'] at q
                refine ⟨_, rfl, d, _, rfl, rfl, ?_⟩
                rw [mem_fig]
                exact q _ (Same.refl _)
            · have fin : Q (.bl (nameL l)) H1 := by
                rw [← nE]
                exact k H1 e
              have e2 : (List.range (tx l).cps.size).map (fun i => V.bl (isLet (l.getD i 0) || isFig (l.getD i 0))) = (l.map fun c => isLet c || isFig c).map V.bl := by
                rw [tx_size, range_map l 0 fun c => V.bl (isLet c || isFig c)]
                simp
              rw [e2] at hD
              refine ⟨Dl, _, rfl, sqO hD, ?_⟩
              have : nameL l = (l.map fun c => isLet c || isFig c).all id := by
                unfold nameL
                rw [decide_eq_true q1, decide_eq_true q2, gd, hlet, List.all_map]
                rfl
              rw [← this]
              exact fin
      · repeat (first | refine ⟨_, pf (by first | rfl | assumption | exact ⟨_, rfl⟩ | exact ⟨_, by assumption⟩ | exact stO upd_same | exact sqO upd_same), ?_⟩ | refine ⟨_, _, pf (by first | rfl | assumption | exact ⟨_, rfl⟩ | exact ⟨_, by assumption⟩ | exact stO upd_same | exact sqO upd_same), ?_⟩ | refine ⟨_, _, pf (by first | rfl | assumption | exact ⟨_, rfl⟩ | exact ⟨_, by assumption⟩ | exact stO upd_same | exact sqO upd_same), pf (by first | rfl | assumption | exact ⟨_, rfl⟩ | exact ⟨_, by assumption⟩ | exact stO upd_same | exact sqO upd_same), ?_⟩ | refine ⟨_, pf (by first | rfl | assumption | exact ⟨_, rfl⟩ | exact ⟨_, by assumption⟩ | exact stO upd_same | exact sqO upd_same), pf (by first | rfl | assumption | exact ⟨_, rfl⟩ | exact ⟨_, by assumption⟩ | exact stO upd_same | exact sqO upd_same), ?_⟩ | refine ⟨_, _, _, pf (by first | rfl | assumption | exact ⟨_, rfl⟩ | exact ⟨_, by assumption⟩ | exact stO upd_same | exact sqO upd_same), pf (by first | rfl | assumption | exact ⟨_, rfl⟩ | exact ⟨_, by assumption⟩ | exact stO upd_same | exact sqO upd_same), pf (by first | rfl | assumption | exact ⟨_, rfl⟩ | exact ⟨_, by assumption⟩ | exact stO upd_same | exact sqO upd_same), pf (by first | rfl | assumption | exact ⟨_, rfl⟩ | exact ⟨_, by assumption⟩ | exact stO upd_same | exact sqO upd_same), ?_⟩ | refine ⟨_, _, _, pf (by first | rfl | assumption | exact ⟨_, rfl⟩ | exact ⟨_, by assumption⟩ | exact stO upd_same | exact sqO upd_same), pf (by first | rfl | assumption | exact ⟨_, rfl⟩ | exact ⟨_, by assumption⟩ | exact stO upd_same | exact sqO upd_same), pf (by first | rfl | assumption | exact ⟨_, rfl⟩ | exact ⟨_, by assumption⟩ | exact stO upd_same | exact sqO upd_same), ?_⟩ | refine ⟨_, _, _, pf (by first | rfl | assumption | exact ⟨_, rfl⟩ | exact ⟨_, by assumption⟩ | exact stO upd_same | exact sqO upd_same), pf (by first | rfl | assumption | exact ⟨_, rfl⟩ | exact ⟨_, by assumption⟩ | exact stO upd_same | exact sqO upd_same), ?_⟩ | refine ⟨_, _, pf (by first | rfl | assumption | exact ⟨_, rfl⟩ | exact ⟨_, by assumption⟩ | exact stO upd_same | exact sqO upd_same), pf (by first | rfl | assumption | exact ⟨_, rfl⟩ | exact ⟨_, by assumption⟩ | exact stO upd_same | exact sqO upd_same), pf (by first | rfl | assumption | exact ⟨_, rfl⟩ | exact ⟨_, by assumption⟩ | exact stO upd_same | exact sqO upd_same), ?_⟩ | refine ⟨_, _, _, _, pf (by first | rfl | assumption | exact ⟨_, rfl⟩ | exact ⟨_, by assumption⟩ | exact stO upd_same | exact sqO upd_same), pf (by first | rfl | assumption | exact ⟨_, rfl⟩ | exact ⟨_, by assumption⟩ | exact stO upd_same | exact sqO upd_same), pf (by first | rfl | assumption | exact ⟨_, rfl⟩ | exact ⟨_, by assumption⟩ | exact stO upd_same | exact sqO upd_same), ?_⟩ | refine ⟨_, _, _, _, pf (by first | rfl | assumption | exact ⟨_, rfl⟩ | exact ⟨_, by assumption⟩ | exact stO upd_same | exact sqO upd_same), pf (by first | rfl | assumption | exact ⟨_, rfl⟩ | exact ⟨_, by assumption⟩ | exact stO upd_same | exact sqO upd_same), pf (by first | rfl | assumption | exact ⟨_, rfl⟩ | exact ⟨_, by assumption⟩ | exact stO upd_same | exact sqO upd_same), pf (by first | rfl | assumption | exact ⟨_, rfl⟩ | exact ⟨_, by assumption⟩ | exact stO upd_same | exact sqO upd_same), ?_⟩ | refine ⟨pf (by first | rfl | assumption | exact ⟨_, rfl⟩ | exact ⟨_, by assumption⟩ | exact stO upd_same | exact sqO upd_same), ?_⟩)
        refine out false ?_
        rw [tx_len] at h2
        have q1 : ¬ 1 ≤ l.length := fun q => h2 (decide_eq_true (by omega))
        unfold nameL
        rw [decide_eq_false q1]
        simp
def sp_figure : Sp := fun vs H Q _ => ∃ l, vs = [.str (tx l)] ∧ l.all isSig = true ∧ l.length ≤ 100000 ∧ ∀ H', Same H H' → Q (.int (figN l)) H'
theorem sc_figure : FnScope ["text", "total", "at", "sign"] ["text"] (defScope s_figure) := ⟨rfl, rfl, rfl, by decide +kernel, rfl, by decide +kernel, by decide +kernel⟩
theorem ok_figure (T : Txt P K mg F D C) : FnOk P w K mg base CX0 1 (F 4) (D 4) ["text"] sp_figure := by
  refine T.u_figure.ok sc_figure (fun vs H Q E h => ?_) (fun cdv A outer s H vs Q E hr h => ?_)
  · obtain ⟨l, rfl, _⟩ := h
    rfl
  · obtain ⟨l, rfl, hs, hl, k⟩ := h
    refine ⟨_, (pss_cons (ps_set (i := 1) sc_figure.nd rfl (.inl rfl) pe_int)
      (pss_cons (ps_for PassesOwn.never rfl (pi_enumS (by rfl) T.z_enumerate (pa_cons (pv 0) pa_nil)) (pg_tup (by rfl) (pgs_cons (pg_name (i := 2) sc_figure.nd rfl (.inl rfl)) (pgs_cons (pg_name (i := 3) sc_figure.nd rfl (.inl rfl)) pgs_nil)))
        (pss_one (ps_aug (i := 1) sc_figure.nd rfl (.inl rfl) (pe_op op_mul (pe_op op_add (pe_bm PySem.F.plainAttrs_str PySem.F.slot_str_index PySem.F.type_str_index mt_sindex (pe_glob (v := .str tSIGNS) (by rfl) T.s_SIGNS.choose_spec ⟨_, rfl⟩) (pa_cons (pv 3) pa_nil)) pe_int) (pe_op op_add (pv 2) pe_int)) ip_add)))
      (pss_one (ps_ret (pe_op op_mod (pv 1) pe_int))))), ?_⟩
    repeat (first | refine ⟨_, pf (by first | rfl | assumption | exact ⟨_, rfl⟩ | exact ⟨_, by assumption⟩ | exact stO upd_same | exact sqO upd_same), ?_⟩ | refine ⟨_, _, pf (by first | rfl | assumption | exact ⟨_, rfl⟩ | exact ⟨_, by assumption⟩ | exact stO upd_same | exact sqO upd_same), ?_⟩ | refine ⟨_, _, pf (by first | rfl | assumption | exact ⟨_, rfl⟩ | exact ⟨_, by assumption⟩ | exact stO upd_same | exact sqO upd_same), pf (by first | rfl | assumption | exact ⟨_, rfl⟩ | exact ⟨_, by assumption⟩ | exact stO upd_same | exact sqO upd_same), ?_⟩ | refine ⟨_, pf (by first | rfl | assumption | exact ⟨_, rfl⟩ | exact ⟨_, by assumption⟩ | exact stO upd_same | exact sqO upd_same), pf (by first | rfl | assumption | exact ⟨_, rfl⟩ | exact ⟨_, by assumption⟩ | exact stO upd_same | exact sqO upd_same), ?_⟩ | refine ⟨_, _, _, pf (by first | rfl | assumption | exact ⟨_, rfl⟩ | exact ⟨_, by assumption⟩ | exact stO upd_same | exact sqO upd_same), pf (by first | rfl | assumption | exact ⟨_, rfl⟩ | exact ⟨_, by assumption⟩ | exact stO upd_same | exact sqO upd_same), pf (by first | rfl | assumption | exact ⟨_, rfl⟩ | exact ⟨_, by assumption⟩ | exact stO upd_same | exact sqO upd_same), pf (by first | rfl | assumption | exact ⟨_, rfl⟩ | exact ⟨_, by assumption⟩ | exact stO upd_same | exact sqO upd_same), ?_⟩ | refine ⟨_, _, _, pf (by first | rfl | assumption | exact ⟨_, rfl⟩ | exact ⟨_, by assumption⟩ | exact stO upd_same | exact sqO upd_same), pf (by first | rfl | assumption | exact ⟨_, rfl⟩ | exact ⟨_, by assumption⟩ | exact stO upd_same | exact sqO upd_same), pf (by first | rfl | assumption | exact ⟨_, rfl⟩ | exact ⟨_, by assumption⟩ | exact stO upd_same | exact sqO upd_same), ?_⟩ | refine ⟨_, _, _, pf (by first | rfl | assumption | exact ⟨_, rfl⟩ | exact ⟨_, by assumption⟩ | exact stO upd_same | exact sqO upd_same), pf (by first | rfl | assumption | exact ⟨_, rfl⟩ | exact ⟨_, by assumption⟩ | exact stO upd_same | exact sqO upd_same), ?_⟩ | refine ⟨_, _, pf (by first | rfl | assumption | exact ⟨_, rfl⟩ | exact ⟨_, by assumption⟩ | exact stO upd_same | exact sqO upd_same), pf (by first | rfl | assumption | exact ⟨_, rfl⟩ | exact ⟨_, by assumption⟩ | exact stO upd_same | exact sqO upd_same), pf (by first | rfl | assumption | exact ⟨_, rfl⟩ | exact ⟨_, by assumption⟩ | exact stO upd_same | exact sqO upd_same), ?_⟩ | refine ⟨_, _, _, _, pf (by first | rfl | assumption | exact ⟨_, rfl⟩ | exact ⟨_, by assumption⟩ | exact stO upd_same | exact sqO upd_same), pf (by first | rfl | assumption | exact ⟨_, rfl⟩ | exact ⟨_, by assumption⟩ | exact stO upd_same | exact sqO upd_same), pf (by first | rfl | assumption | exact ⟨_, rfl⟩ | exact ⟨_, by assumption⟩ | exact stO upd_same | exact sqO upd_same), ?_⟩ | refine ⟨_, _, _, _, pf (by first | rfl | assumption | exact ⟨_, rfl⟩ | exact ⟨_, by assumption⟩ | exact stO upd_same | exact sqO upd_same), pf (by first | rfl | assumption | exact ⟨_, rfl⟩ | exact ⟨_, by assumption⟩ | exact stO upd_same | exact sqO upd_same), pf (by first | rfl | assumption | exact ⟨_, rfl⟩ | exact ⟨_, by assumption⟩ | exact stO upd_same | exact sqO upd_same), pf (by first | rfl | assumption | exact ⟨_, rfl⟩ | exact ⟨_, by assumption⟩ | exact stO upd_same | exact sqO upd_same), ?_⟩ | refine ⟨pf (by first | rfl | assumption | exact ⟨_, rfl⟩ | exact ⟨_, by assumption⟩ | exact stO upd_same | exact sqO upd_same), ?_⟩)
    refine for_enumS (fun i σ H' => Same H H' ∧ ∃ a b, σ = [some (.str (tx l)), some (.int (figTo l i)), a, b]) ⟨Same.refl H, _, _, rfl⟩ ?_ ?_
    · rintro i c Tp σ H1 hc ⟨e, a, b, rfl⟩ nT
      rw [tx_get] at hc
      have hsig : isSig c = true := List.all_eq_true.mp hs c (List.mem_of_getElem? hc)
      obtain ⟨rest, occ⟩ := occ_sig hsig
      refine ⟨_, _, rfl, stO upd_same, rfl, ?_⟩
      repeat (first | refine ⟨_, pf (by first | rfl | assumption | exact ⟨_, rfl⟩ | exact ⟨_, by assumption⟩ | exact stO upd_same | exact sqO upd_same), ?_⟩ | refine ⟨_, _, pf (by first | rfl | assumption | exact ⟨_, rfl⟩ | exact ⟨_, by assumption⟩ | exact stO upd_same | exact sqO upd_same), ?_⟩ | refine ⟨_, _, pf (by first | rfl | assumption | exact ⟨_, rfl⟩ | exact ⟨_, by assumption⟩ | exact stO upd_same | exact sqO upd_same), pf (by first | rfl | assumption | exact ⟨_, rfl⟩ | exact ⟨_, by assumption⟩ | exact stO upd_same | exact sqO upd_same), ?_⟩ | refine ⟨_, pf (by first | rfl | assumption | exact ⟨_, rfl⟩ | exact ⟨_, by assumption⟩ | exact stO upd_same | exact sqO upd_same), pf (by first | rfl | assumption | exact ⟨_, rfl⟩ | exact ⟨_, by assumption⟩ | exact stO upd_same | exact sqO upd_same), ?_⟩ | refine ⟨_, _, _, pf (by first | rfl | assumption | exact ⟨_, rfl⟩ | exact ⟨_, by assumption⟩ | exact stO upd_same | exact sqO upd_same), pf (by first | rfl | assumption | exact ⟨_, rfl⟩ | exact ⟨_, by assumption⟩ | exact stO upd_same | exact sqO upd_same), pf (by first | rfl | assumption | exact ⟨_, rfl⟩ | exact ⟨_, by assumption⟩ | exact stO upd_same | exact sqO upd_same), pf (by first | rfl | assumption | exact ⟨_, rfl⟩ | exact ⟨_, by assumption⟩ | exact stO upd_same | exact sqO upd_same), ?_⟩ | refine ⟨_, _, _, pf (by first | rfl | assumption | exact ⟨_, rfl⟩ | exact ⟨_, by assumption⟩ | exact stO upd_same | exact sqO upd_same), pf (by first | rfl | assumption | exact ⟨_, rfl⟩ | exact ⟨_, by assumption⟩ | exact stO upd_same | exact sqO upd_same), pf (by first | rfl | assumption | exact ⟨_, rfl⟩ | exact ⟨_, by assumption⟩ | exact stO upd_same | exact sqO upd_same), ?_⟩ | refine ⟨_, _, _, pf (by first | rfl | assumption | exact ⟨_, rfl⟩ | exact ⟨_, by assumption⟩ | exact stO upd_same | exact sqO upd_same), pf (by first | rfl | assumption | exact ⟨_, rfl⟩ | exact ⟨_, by assumption⟩ | exact stO upd_same | exact sqO upd_same), ?_⟩ | refine ⟨_, _, pf (by first | rfl | assumption | exact ⟨_, rfl⟩ | exact ⟨_, by assumption⟩ | exact stO upd_same | exact sqO upd_same), pf (by first | rfl | assumption | exact ⟨_, rfl⟩ | exact ⟨_, by assumption⟩ | exact stO upd_same | exact sqO upd_same), pf (by first | rfl | assumption | exact ⟨_, rfl⟩ | exact ⟨_, by assumption⟩ | exact stO upd_same | exact sqO upd_same), ?_⟩ | refine ⟨_, _, _, _, pf (by first | rfl | assumption | exact ⟨_, rfl⟩ | exact ⟨_, by assumption⟩ | exact stO upd_same | exact sqO upd_same), pf (by first | rfl | assumption | exact ⟨_, rfl⟩ | exact ⟨_, by assumption⟩ | exact stO upd_same | exact sqO upd_same), pf (by first | rfl | assumption | exact ⟨_, rfl⟩ | exact ⟨_, by assumption⟩ | exact stO upd_same | exact sqO upd_same), ?_⟩ | refine ⟨_, _, _, _, pf (by first | rfl | assumption | exact ⟨_, rfl⟩ | exact ⟨_, by assumption⟩ | exact stO upd_same | exact sqO upd_same), pf (by first | rfl | assumption | exact ⟨_, rfl⟩ | exact ⟨_, by assumption⟩ | exact stO upd_same | exact sqO upd_same), pf (by first | rfl | assumption | exact ⟨_, rfl⟩ | exact ⟨_, by assumption⟩ | exact stO upd_same | exact sqO upd_same), pf (by first | rfl | assumption | exact ⟨_, rfl⟩ | exact ⟨_, by assumption⟩ | exact stO upd_same | exact sqO upd_same), ?_⟩ | refine ⟨pf (by first | rfl | assumption | exact ⟨_, rfl⟩ | exact ⟨_, by assumption⟩ | exact stO upd_same | exact sqO upd_same), ?_⟩)
      refine ⟨.inl ⟨by have := ix_lt c; omega, by have := ix_lt c; omega⟩, ?_⟩
      repeat (first | refine ⟨_, pf (by first | rfl | assumption | exact ⟨_, rfl⟩ | exact ⟨_, by assumption⟩ | exact stO upd_same | exact sqO upd_same), ?_⟩ | refine ⟨_, _, pf (by first | rfl | assumption | exact ⟨_, rfl⟩ | exact ⟨_, by assumption⟩ | exact stO upd_same | exact sqO upd_same), ?_⟩ | refine ⟨_, _, pf (by first | rfl | assumption | exact ⟨_, rfl⟩ | exact ⟨_, by assumption⟩ | exact stO upd_same | exact sqO upd_same), pf (by first | rfl | assumption | exact ⟨_, rfl⟩ | exact ⟨_, by assumption⟩ | exact stO upd_same | exact sqO upd_same), ?_⟩ | refine ⟨_, pf (by first | rfl | assumption | exact ⟨_, rfl⟩ | exact ⟨_, by assumption⟩ | exact stO upd_same | exact sqO upd_same), pf (by first | rfl | assumption | exact ⟨_, rfl⟩ | exact ⟨_, by assumption⟩ | exact stO upd_same | exact sqO upd_same), ?_⟩ | refine ⟨_, _, _, pf (by first | rfl | assumption | exact ⟨_, rfl⟩ | exact ⟨_, by assumption⟩ | exact stO upd_same | exact sqO upd_same), pf (by first | rfl | assumption | exact ⟨_, rfl⟩ | exact ⟨_, by assumption⟩ | exact stO upd_same | exact sqO upd_same), pf (by first | rfl | assumption | exact ⟨_, rfl⟩ | exact ⟨_, by assumption⟩ | exact stO upd_same | exact sqO upd_same), pf (by first | rfl | assumption | exact ⟨_, rfl⟩ | exact ⟨_, by assumption⟩ | exact stO upd_same | exact sqO upd_same), ?_⟩ | refine ⟨_, _, _, pf (by first | rfl | assumption | exact ⟨_, rfl⟩ | exact ⟨_, by assumption⟩ | exact stO upd_same | exact sqO upd_same), pf (by first | rfl | assumption | exact ⟨_, rfl⟩ | exact ⟨_, by assumption⟩ | exact stO upd_same | exact sqO upd_same), pf (by first | rfl | assumption | exact ⟨_, rfl⟩ | exact ⟨_, by assumption⟩ | exact stO upd_same | exact sqO upd_same), ?_⟩ | refine ⟨_, _, _, pf (by first | rfl | assumption | exact ⟨_, rfl⟩ | exact ⟨_, by assumption⟩ | exact stO upd_same | exact sqO upd_same), pf (by first | rfl | assumption | exact ⟨_, rfl⟩ | exact ⟨_, by assumption⟩ | exact stO upd_same | exact sqO upd_same), ?_⟩ | refine ⟨_, _, pf (by first | rfl | assumption | exact ⟨_, rfl⟩ | exact ⟨_, by assumption⟩ | exact stO upd_same | exact sqO upd_same), pf (by first | rfl | assumption | exact ⟨_, rfl⟩ | exact ⟨_, by assumption⟩ | exact stO upd_same | exact sqO upd_same), pf (by first | rfl | assumption | exact ⟨_, rfl⟩ | exact ⟨_, by assumption⟩ | exact stO upd_same | exact sqO upd_same), ?_⟩ | refine ⟨_, _, _, _, pf (by first | rfl | assumption | exact ⟨_, rfl⟩ | exact ⟨_, by assumption⟩ | exact stO upd_same | exact sqO upd_same), pf (by first | rfl | assumption | exact ⟨_, rfl⟩ | exact ⟨_, by assumption⟩ | exact stO upd_same | exact sqO upd_same), pf (by first | rfl | assumption | exact ⟨_, rfl⟩ | exact ⟨_, by assumption⟩ | exact stO upd_same | exact sqO upd_same), ?_⟩ | refine ⟨_, _, _, _, pf (by first | rfl | assumption | exact ⟨_, rfl⟩ | exact ⟨_, by assumption⟩ | exact stO upd_same | exact sqO upd_same), pf (by first | rfl | assumption | exact ⟨_, rfl⟩ | exact ⟨_, by assumption⟩ | exact stO upd_same | exact sqO upd_same), pf (by first | rfl | assumption | exact ⟨_, rfl⟩ | exact ⟨_, by assumption⟩ | exact stO upd_same | exact sqO upd_same), pf (by first | rfl | assumption | exact ⟨_, rfl⟩ | exact ⟨_, by assumption⟩ | exact stO upd_same | exact sqO upd_same), ?_⟩ | refine ⟨pf (by first | rfl | assumption | exact ⟨_, rfl⟩ | exact ⟨_, by assumption⟩ | exact stO upd_same | exact sqO upd_same), ?_⟩)
      refine ⟨e.trans (same_new nT), some (.int (i : Nat)), some (.str ⟨#[c]⟩), ?_⟩
      have gi : l.getD i 0 = c := getD_some hc
      rw [figTo, gi]
      rfl
    · rintro σ H1 ⟨e, a, b, rfl⟩
      repeat (first | refine ⟨_, pf (by first | rfl | assumption | exact ⟨_, rfl⟩ | exact ⟨_, by assumption⟩ | exact stO upd_same | exact sqO upd_same), ?_⟩ | refine ⟨_, _, pf (by first | rfl | assumption | exact ⟨_, rfl⟩ | exact ⟨_, by assumption⟩ | exact stO upd_same | exact sqO upd_same), ?_⟩ | refine ⟨_, _, pf (by first | rfl | assumption | exact ⟨_, rfl⟩ | exact ⟨_, by assumption⟩ | exact stO upd_same | exact sqO upd_same), pf (by first | rfl | assumption | exact ⟨_, rfl⟩ | exact ⟨_, by assumption⟩ | exact stO upd_same | exact sqO upd_same), ?_⟩ | refine ⟨_, pf (by first | rfl | assumption | exact ⟨_, rfl⟩ | exact ⟨_, by assumption⟩ | exact stO upd_same | exact sqO upd_same), pf (by first | rfl | assumption | exact ⟨_, rfl⟩ | exact ⟨_, by assumption⟩ | exact stO upd_same | exact sqO upd_same), ?_⟩ | refine ⟨_, _, _, pf (by first | rfl | assumption | exact ⟨_, rfl⟩ | exact ⟨_, by assumption⟩ | exact stO upd_same | exact sqO upd_same), pf (by first | rfl | assumption | exact ⟨_, rfl⟩ | exact ⟨_, by assumption⟩ | exact stO upd_same | exact sqO upd_same), pf (by first | rfl | assumption | exact ⟨_, rfl⟩ | exact ⟨_, by assumption⟩ | exact stO upd_same | exact sqO upd_same), pf (by first | rfl | assumption | exact ⟨_, rfl⟩ | exact ⟨_, by assumption⟩ | exact stO upd_same | exact sqO upd_same), ?_⟩ | refine ⟨_, _, _, pf (by first | rfl | assumption | exact ⟨_, rfl⟩ | exact ⟨_, by assumption⟩ | exact stO upd_same | exact sqO upd_same), pf (by first | rfl | assumption | exact ⟨_, rfl⟩ | exact ⟨_, by assumption⟩ | exact stO upd_same | exact sqO upd_same), pf (by first | rfl | assumption | exact ⟨_, rfl⟩ | exact ⟨_, by assumption⟩ | exact stO upd_same | exact sqO upd_same), ?_⟩ | refine ⟨_, _, _, pf (by first | rfl | assumption | exact ⟨_, rfl⟩ | exact ⟨_, by assumption⟩ | exact stO upd_same | exact sqO upd_same), pf (by first | rfl | assumption | exact ⟨_, rfl⟩ | exact ⟨_, by assumption⟩ | exact stO upd_same | exact sqO upd_same), ?_⟩ | refine ⟨_, _, pf (by first | rfl | assumption | exact ⟨_, rfl⟩ | exact ⟨_, by assumption⟩ | exact stO upd_same | exact sqO upd_same), pf (by first | rfl | assumption | exact ⟨_, rfl⟩ | exact ⟨_, by assumption⟩ | exact stO upd_same | exact sqO upd_same), pf (by first | rfl | assumption | exact ⟨_, rfl⟩ | exact ⟨_, by assumption⟩ | exact stO upd_same | exact sqO upd_same), ?_⟩ | refine ⟨_, _, _, _, pf (by first | rfl | assumption | exact ⟨_, rfl⟩ | exact ⟨_, by assumption⟩ | exact stO upd_same | exact sqO upd_same), pf (by first | rfl | assumption | exact ⟨_, rfl⟩ | exact ⟨_, by assumption⟩ | exact stO upd_same | exact sqO upd_same), pf (by first | rfl | assumption | exact ⟨_, rfl⟩ | exact ⟨_, by assumption⟩ | exact stO upd_same | exact sqO upd_same), ?_⟩ | refine ⟨_, _, _, _, pf (by first | rfl | assumption | exact ⟨_, rfl⟩ | exact ⟨_, by assumption⟩ | exact stO upd_same | exact sqO upd_same), pf (by first | rfl | assumption | exact ⟨_, rfl⟩ | exact ⟨_, by assumption⟩ | exact stO upd_same | exact sqO upd_same), pf (by first | rfl | assumption | exact ⟨_, rfl⟩ | exact ⟨_, by assumption⟩ | exact stO upd_same | exact sqO upd_same), pf (by first | rfl | assumption | exact ⟨_, rfl⟩ | exact ⟨_, by assumption⟩ | exact stO upd_same | exact sqO upd_same), ?_⟩ | refine ⟨pf (by first | rfl | assumption | exact ⟨_, rfl⟩ | exact ⟨_, by assumption⟩ | exact stO upd_same | exact sqO upd_same), ?_⟩)
      refine ⟨(by decide : (0 : Int) < 97), ?_⟩
      rw [tx_size]
      exact k H1 e
theorem words_sum (ds : List PyData) : (((wordsD ds).map tx).map fun x => x.length).sum + ((wordsD ds).map tx).length * (tx [32]).length = sumW ds := by
  rw [wordsD_map, tx_len]
  simp only [List.map_map, List.length_map, sumW]
  have : ∀ l : List PyData, (l.map ((fun x : Str => x.length) ∘ tx ∘ wordD)).sum + l.length * 1 = (l.map fun d => (wordD d).length + 1).sum := by
    intro l
    induction l with
    | nil => rfl
    | cons x l ih =>
      simp only [List.map_cons, List.sum_cons, List.length_cons, Function.comp, tx_len] at ih ⊢
      omega
  exact this ds
theorem words_range {ds : List PyData} {n : Nat} (h : n = ds.length) : (List.range n).map (fun i => V.str (tx (wordD (ds.getD i .none)))) = ((wordsD ds).map tx).map V.str := by
  rw [h, range_map ds PyData.none fun d => V.str (tx (wordD d)), wordsD_map]
  simp
def sp_word_of (K : PySem.W.Frag) (n : Nat) : Sp := fun vs H Q _ => ∃ x d, vs = [x] ∧ Dp K H x d ∧ evOk n d ∧ (wordD d).length ≤ 100000 ∧ ∀ H', Same H H' → Q (.str (tx (wordD d))) H'
theorem sc_word_of : FnScope ["part", "one"] ["part"] (defScope s_word_of) := ⟨rfl, rfl, rfl, by decide +kernel, rfl, by decide +kernel, by decide +kernel⟩
theorem ok_word_of (T : Txt P K mg F D C) : ∀ n : Nat, FnOk P w K mg base CX0 (n + 1) (F 5) (D 5) ["part"] (sp_word_of K n) := by
  intro n
  induction n with
  | zero =>
    refine T.u_word_of.ok sc_word_of (fun vs H Q E h => ?_) (fun cdv A outer s H vs Q E hr h => ?_)
    · obtain ⟨x, d, rfl, _⟩ := h
      rfl
    · obtain ⟨x, d, rfl, _, hd, _⟩ := h
      exact hd.elim
  | succ n ih =>
    refine T.u_word_of.ok sc_word_of (fun vs H Q E h => ?_) (fun cdv A outer s H vs Q E hr h => ?_)
    · obtain ⟨x, d, rfl, _⟩ := h
      rfl
    · obtain ⟨x, d, rfl, hx, hd, hl, k⟩ := h
      have G_word_of := ih
      refine ⟨_, (pss_cons (ps_if (pt_val (pe_callB (r := rIsi K) call_isi (by rfl) T.z_isinstance (by decide +kernel) (pa_cons (pv 0) (pa_cons (pe_bltn (v := .ty "tuple") (by rfl) T.z_tuple (by decide +kernel) rfl) pa_nil)))) (pss_one (ps_ret (pe_op op_add_str (pe_op op_add_str pe_str (pe_join pe_str (pe_lc (own := [("one", 1)]) (g := gName 1) (by rfl) sc_word_of.nd (pi_tup (pv 0)) (blkOk_by (own := [("one", 1)]) (N := ["part", "one"]) (sc := defScope s_word_of) (by decide +kernel)) (fun _ _ _ _ _ => (pg_name (i := 1) sc_word_of.nd rfl (.inl rfl))) (fun _ _ _ _ _ => pts_nil) (fun _ _ _ _ _ => (pe_call G_word_of (hr.mono (by omega)) (by rfl) T.g_word_of T.u_word_of.kp T.b_word_of .nil pass0 (pa_cons (pv 1) pa_nil)))))) pe_str)))
        pss_nil)
      (pss_one (ps_ret (pe_ifExp (pt_val (pe_callB (r := rIsi K) call_isi (by rfl) T.z_isinstance (by decide +kernel) (pa_cons (pv 0) (pa_cons (pe_bltn (v := .ty "str") (by rfl) T.z_str (by decide +kernel) rfl) pa_nil)))) (pv 0) (pe_callTy call_str_int (by rfl) T.z_str (by decide +kernel) (pa_cons (pv 0) pa_nil)))))), ?_⟩
      refine ⟨_, rfl, _, _, .type (tyName d), _, isTup d, rfl, .ty _, tyx_d hx, kit_tup d, _, rfl, ?_⟩
      cases hx with
      | @tup a xs ds sx ax =>
        refine if_t rfl ?_
        rw [wt_tuple] at hl
        have jl := join_len ds
        have ln := len_sumW ds
        unfold textE at hl
        repeat (first | refine ⟨_, pf (by first | rfl | assumption | exact ⟨_, rfl⟩ | exact ⟨_, by assumption⟩ | exact stO upd_same | exact sqO upd_same), ?_⟩ | refine ⟨_, _, pf (by first | rfl | assumption | exact ⟨_, rfl⟩ | exact ⟨_, by assumption⟩ | exact stO upd_same | exact sqO upd_same), ?_⟩ | refine ⟨_, _, pf (by first | rfl | assumption | exact ⟨_, rfl⟩ | exact ⟨_, by assumption⟩ | exact stO upd_same | exact sqO upd_same), pf (by first | rfl | assumption | exact ⟨_, rfl⟩ | exact ⟨_, by assumption⟩ | exact stO upd_same | exact sqO upd_same), ?_⟩ | refine ⟨_, pf (by first | rfl | assumption | exact ⟨_, rfl⟩ | exact ⟨_, by assumption⟩ | exact stO upd_same | exact sqO upd_same), pf (by first | rfl | assumption | exact ⟨_, rfl⟩ | exact ⟨_, by assumption⟩ | exact stO upd_same | exact sqO upd_same), ?_⟩ | refine ⟨_, _, _, pf (by first | rfl | assumption | exact ⟨_, rfl⟩ | exact ⟨_, by assumption⟩ | exact stO upd_same | exact sqO upd_same), pf (by first | rfl | assumption | exact ⟨_, rfl⟩ | exact ⟨_, by assumption⟩ | exact stO upd_same | exact sqO upd_same), pf (by first | rfl | assumption | exact ⟨_, rfl⟩ | exact ⟨_, by assumption⟩ | exact stO upd_same | exact sqO upd_same), pf (by first | rfl | assumption | exact ⟨_, rfl⟩ | exact ⟨_, by assumption⟩ | exact stO upd_same | exact sqO upd_same), ?_⟩ | refine ⟨_, _, _, pf (by first | rfl | assumption | exact ⟨_, rfl⟩ | exact ⟨_, by assumption⟩ | exact stO upd_same | exact sqO upd_same), pf (by first | rfl | assumption | exact ⟨_, rfl⟩ | exact ⟨_, by assumption⟩ | exact stO upd_same | exact sqO upd_same), pf (by first | rfl | assumption | exact ⟨_, rfl⟩ | exact ⟨_, by assumption⟩ | exact stO upd_same | exact sqO upd_same), ?_⟩ | refine ⟨_, _, _, pf (by first | rfl | assumption | exact ⟨_, rfl⟩ | exact ⟨_, by assumption⟩ | exact stO upd_same | exact sqO upd_same), pf (by first | rfl | assumption | exact ⟨_, rfl⟩ | exact ⟨_, by assumption⟩ | exact stO upd_same | exact sqO upd_same), ?_⟩ | refine ⟨_, _, pf (by first | rfl | assumption | exact ⟨_, rfl⟩ | exact ⟨_, by assumption⟩ | exact stO upd_same | exact sqO upd_same), pf (by first | rfl | assumption | exact ⟨_, rfl⟩ | exact ⟨_, by assumption⟩ | exact stO upd_same | exact sqO upd_same), pf (by first | rfl | assumption | exact ⟨_, rfl⟩ | exact ⟨_, by assumption⟩ | exact stO upd_same | exact sqO upd_same), ?_⟩ | refine ⟨_, _, _, _, pf (by first | rfl | assumption | exact ⟨_, rfl⟩ | exact ⟨_, by assumption⟩ | exact stO upd_same | exact sqO upd_same), pf (by first | rfl | assumption | exact ⟨_, rfl⟩ | exact ⟨_, by assumption⟩ | exact stO upd_same | exact sqO upd_same), pf (by first | rfl | assumption | exact ⟨_, rfl⟩ | exact ⟨_, by assumption⟩ | exact stO upd_same | exact sqO upd_same), ?_⟩ | refine ⟨_, _, _, _, pf (by first | rfl | assumption | exact ⟨_, rfl⟩ | exact ⟨_, by assumption⟩ | exact stO upd_same | exact sqO upd_same), pf (by first | rfl | assumption | exact ⟨_, rfl⟩ | exact ⟨_, by assumption⟩ | exact stO upd_same | exact sqO upd_same), pf (by first | rfl | assumption | exact ⟨_, rfl⟩ | exact ⟨_, by assumption⟩ | exact stO upd_same | exact sqO upd_same), pf (by first | rfl | assumption | exact ⟨_, rfl⟩ | exact ⟨_, by assumption⟩ | exact stO upd_same | exact sqO upd_same), ?_⟩ | refine ⟨pf (by first | rfl | assumption | exact ⟨_, rfl⟩ | exact ⟨_, by assumption⟩ | exact stO upd_same | exact sqO upd_same), ?_⟩)
        refine fun Dl nD => lc_map walk_tup nD (fun i => .str (tx (wordD (ds.getD i .none)))) (by rw [ax.length]; omega) (fun H' e => e.sqt sx) (fun _ _ _ _ _ y => by obtain ⟨rfl, _⟩ := y; exact Same.refl _) (fun x => rfl) (fun i x H1 H2 hi e y Q' q => ?_) (fun H1 e hD => ?_)
        · obtain ⟨rfl, hx⟩ := y
          obtain ⟨d, hd'⟩ : ∃ d, ds[i]? = some d := ⟨ds[i]'(by rw [← ax.length]; exact hi), by simp⟩
          obtain ⟨v, hv, hvd⟩ := ax.get hd'
          rw [hx] at hv
          cases hv
          rw [getD_some hd'] at q
          have hm := List.mem_of_getElem? hd'
          refine ⟨_, rfl, _, _, rfl, Dp.mono e _ _ hvd, hd d hm, ?_, fun H' e' => q H' e'⟩
          have := mem_sumW hm
          omega
        · rw [words_range ax.length] at hD
          refine ⟨tx [32], Dl, (wordsD ds).map tx, rfl, rfl, .inl (sqO hD), (by rw [words_sum]; omega), ?_⟩
          · rw [join_tx]
            have z1 : (tx [40]).length + (tx (joinL [32] (wordsD ds))).length ≤ sizeLine := by
              rw [tx_len, tx_len]
              exact Nat.le_trans (show _ ≤ 1000000 by simp only [List.length_singleton]; omega) (by decide)
            have z2 : (tx [40] ++ tx (joinL [32] (wordsD ds))).length + (tx [41]).length ≤ sizeLine := by
              rw [tx_app, tx_len, tx_len]
              exact Nat.le_trans (show _ ≤ 1000000 by simp only [List.length_singleton, List.length_append]; omega) (by decide)
            refine ⟨tx [40], _, rfl, rfl, z1, _, tx [41], rfl, rfl, z2, ?_⟩
            rw [tx_app, tx_app]
            have e4 : wordD (.tuple ds) = [40] ++ joinL [32] (wordsD ds) ++ [41] := by
              rw [wordD]
              simp
            have := k H1 e
            rw [e4] at this
            exact this
      | str z =>
        refine if_f rfl ?_
        refine ⟨_, rfl, _, _, .type (tyName (.str z)), _, isStr (.str z), rfl, .ty _, tyx_d (.str z), kit_str _, _, rfl, ?_⟩
        refine if_t rfl ?_
        have e := k H (Same.refl H)
        rw [wordD, tx_of] at e
        exact ⟨_, rfl, e⟩
      | int i =>
        refine if_f rfl ?_
        refine ⟨_, rfl, _, _, .type (tyName (.int i)), _, isStr (.int i), rfl, .ty _, tyx_d (.int i), kit_str _, _, rfl, ?_⟩
        refine if_f rfl ?_
        have e := k H (Same.refl H)
        rw [wordD, ← num_tx] at e
        exact ⟨_, rfl, _, rfl, log_lt hd, e⟩
      | _ => exact hd.elim
def sp_line_of (K : PySem.W.Frag) (n : Nat) : Sp := fun vs H Q _ => ∃ x ds, vs = [x] ∧ Dp K H x (.tuple ds) ∧ (∀ d ∈ ds, evOk n d) ∧ drawnAll ds = true ∧ (textE ds).length ≤ 90000 ∧ ∀ H', Same H H' → Q (.str (tx (lineE ds))) H'
theorem sc_line_of : FnScope ["event", "text", "check", "part"] ["event"] (defScope s_line_of) := ⟨rfl, rfl, rfl, by decide +kernel, rfl, by decide +kernel, by decide +kernel⟩
theorem ok_line_of (T : Txt P K mg F D C) (n : Nat) : FnOk P w K mg base CX0 (n + 2) (F 6) (D 6) ["event"] (sp_line_of K n) := by
  refine T.u_line_of.ok sc_line_of (fun vs H Q E h => ?_) (fun cdv A outer s H vs Q E hr h => ?_)
  · obtain ⟨x, d, rfl, _⟩ := h
    rfl
  · obtain ⟨x, ds, rfl, hx, hd, hdr, hl, k⟩ := h
    have G_word_of := ok_word_of (P := P) (w := w) (base := base) T n
    have G_figure := ok_figure (P := P) (w := w) (base := base) T
    refine ⟨_, (pss_cons (ps_set (i := 1) sc_line_of.nd rfl (.inl rfl) (pe_join pe_str (pe_lc (own := [("part", 3)]) (g := gName 3) (by rfl) sc_line_of.nd (pi_tup (pv 0)) (blkOk_by (own := [("part", 3)]) (N := ["event", "text", "check", "part"]) (sc := defScope s_line_of) (by decide +kernel)) (fun _ _ _ _ _ => (pg_name (i := 3) sc_line_of.nd rfl (.inl rfl))) (fun _ _ _ _ _ => pts_nil) (fun _ _ _ _ _ => (pe_call G_word_of (hr.mono (by omega)) (by rfl) T.g_word_of T.u_word_of.kp T.b_word_of .nil pass0 (pa_cons (pv 3) pa_nil))))))
      (pss_cons (ps_set (i := 2) sc_line_of.nd rfl (.inl rfl) (pe_call G_figure (hr.mono (by omega)) (by rfl) T.g_figure T.u_figure.kp T.b_figure .nil pass0 (pa_cons (pv 1) pa_nil)))
      (pss_one (ps_ret (pe_joined (pj_cons (pe_fmt (pv 1)) (pj_cons pe_str (pj_cons (pe_fmt (pe_op op_fdiv (pv 2) pe_int)) (pj_cons (pe_fmt (pe_op op_mod (pv 2) pe_int)) pj_nil))))))))), ?_⟩
    cases hx with
    | @tup a xs ds sx ax =>
      have jl := join_len ds
      have ln := len_sumW ds
      have hl2 := hl
      unfold textE at hl2
      repeat (first | refine ⟨_, pf (by first | rfl | assumption | exact ⟨_, rfl⟩ | exact ⟨_, by assumption⟩ | exact stO upd_same | exact sqO upd_same), ?_⟩ | refine ⟨_, _, pf (by first | rfl | assumption | exact ⟨_, rfl⟩ | exact ⟨_, by assumption⟩ | exact stO upd_same | exact sqO upd_same), ?_⟩ | refine ⟨_, _, pf (by first | rfl | assumption | exact ⟨_, rfl⟩ | exact ⟨_, by assumption⟩ | exact stO upd_same | exact sqO upd_same), pf (by first | rfl | assumption | exact ⟨_, rfl⟩ | exact ⟨_, by assumption⟩ | exact stO upd_same | exact sqO upd_same), ?_⟩ | refine ⟨_, pf (by first | rfl | assumption | exact ⟨_, rfl⟩ | exact ⟨_, by assumption⟩ | exact stO upd_same | exact sqO upd_same), pf (by first | rfl | assumption | exact ⟨_, rfl⟩ | exact ⟨_, by assumption⟩ | exact stO upd_same | exact sqO upd_same), ?_⟩ | refine ⟨_, _, _, pf (by first | rfl | assumption | exact ⟨_, rfl⟩ | exact ⟨_, by assumption⟩ | exact stO upd_same | exact sqO upd_same), pf (by first | rfl | assumption | exact ⟨_, rfl⟩ | exact ⟨_, by assumption⟩ | exact stO upd_same | exact sqO upd_same), pf (by first | rfl | assumption | exact ⟨_, rfl⟩ | exact ⟨_, by assumption⟩ | exact stO upd_same | exact sqO upd_same), pf (by first | rfl | assumption | exact ⟨_, rfl⟩ | exact ⟨_, by assumption⟩ | exact stO upd_same | exact sqO upd_same), ?_⟩ | refine ⟨_, _, _, pf (by first | rfl | assumption | exact ⟨_, rfl⟩ | exact ⟨_, by assumption⟩ | exact stO upd_same | exact sqO upd_same), pf (by first | rfl | assumption | exact ⟨_, rfl⟩ | exact ⟨_, by assumption⟩ | exact stO upd_same | exact sqO upd_same), pf (by first | rfl | assumption | exact ⟨_, rfl⟩ | exact ⟨_, by assumption⟩ | exact stO upd_same | exact sqO upd_same), ?_⟩ | refine ⟨_, _, _, pf (by first | rfl | assumption | exact ⟨_, rfl⟩ | exact ⟨_, by assumption⟩ | exact stO upd_same | exact sqO upd_same), pf (by first | rfl | assumption | exact ⟨_, rfl⟩ | exact ⟨_, by assumption⟩ | exact stO upd_same | exact sqO upd_same), ?_⟩ | refine ⟨_, _, pf (by first | rfl | assumption | exact ⟨_, rfl⟩ | exact ⟨_, by assumption⟩ | exact stO upd_same | exact sqO upd_same), pf (by first | rfl | assumption | exact ⟨_, rfl⟩ | exact ⟨_, by assumption⟩ | exact stO upd_same | exact sqO upd_same), pf (by first | rfl | assumption | exact ⟨_, rfl⟩ | exact ⟨_, by assumption⟩ | exact stO upd_same | exact sqO upd_same), ?_⟩ | refine ⟨_, _, _, _, pf (by first | rfl | assumption | exact ⟨_, rfl⟩ | exact ⟨_, by assumption⟩ | exact stO upd_same | exact sqO upd_same), pf (by first | rfl | assumption | exact ⟨_, rfl⟩ | exact ⟨_, by assumption⟩ | exact stO upd_same | exact sqO upd_same), pf (by first | rfl | assumption | exact ⟨_, rfl⟩ | exact ⟨_, by assumption⟩ | exact stO upd_same | exact sqO upd_same), ?_⟩ | refine ⟨_, _, _, _, pf (by first | rfl | assumption | exact ⟨_, rfl⟩ | exact ⟨_, by assumption⟩ | exact stO upd_same | exact sqO upd_same), pf (by first | rfl | assumption | exact ⟨_, rfl⟩ | exact ⟨_, by assumption⟩ | exact stO upd_same | exact sqO upd_same), pf (by first | rfl | assumption | exact ⟨_, rfl⟩ | exact ⟨_, by assumption⟩ | exact stO upd_same | exact sqO upd_same), pf (by first | rfl | assumption | exact ⟨_, rfl⟩ | exact ⟨_, by assumption⟩ | exact stO upd_same | exact sqO upd_same), ?_⟩ | refine ⟨pf (by first | rfl | assumption | exact ⟨_, rfl⟩ | exact ⟨_, by assumption⟩ | exact stO upd_same | exact sqO upd_same), ?_⟩)
      refine fun Dl nD => lc_map walk_tup nD (fun i => .str (tx (wordD (ds.getD i .none)))) (by rw [ax.length]; omega) (fun H' e => e.sqt sx) (fun _ _ _ _ _ y => by obtain ⟨rfl, _⟩ := y; exact Same.refl _) (fun x => rfl) (fun i x H1 H2 hi e y Q' q => ?_) (fun H1 e hD => ?_)
      · obtain ⟨rfl, hx⟩ := y
        obtain ⟨d, hd'⟩ : ∃ d, ds[i]? = some d := ⟨ds[i]'(by rw [← ax.length]; exact hi), by simp⟩
        obtain ⟨v, hv, hvd⟩ := ax.get hd'
        rw [hx] at hv
        cases hv
        rw [getD_some hd'] at q
        have hm := List.mem_of_getElem? hd'
        refine ⟨_, rfl, _, _, rfl, Dp.mono e _ _ hvd, hd d hm, ?_, fun H' e' => q H' e'⟩
        have := mem_sumW hm
        omega
      · rw [words_range ax.length] at hD
        refine ⟨tx [32], Dl, (wordsD ds).map tx, rfl, rfl, .inl (sqO hD), (by rw [words_sum]; omega), ?_⟩
        rw [join_tx]
        have hsig : (textE ds).all isSig = true := List.all_eq_true.mpr (sig_join (by decide) (sig_ds ds hdr))
        refine ⟨_, rfl, textE ds, rfl, hsig, by omega, fun H2 e2 => ?_⟩
        have fr : (figN (textE ds) / 10).natAbs ≤ 999999999 ∧ (figN (textE ds) % 10).natAbs ≤ 999999999 := by
          have a1 := figN_nn (textE ds)
          have a2 := figN_lt (textE ds)
          omega
        have zz : ∀ n : Nat, n ≤ 100000 → n ≤ sizeLine := fun n h => Nat.le_trans h (by decide)
        have n1 := num_len fr.1
        have n2 := num_len fr.2
        refine ⟨_, rfl, .inl ⟨tx (textE ds), rfl, zz _ (by rw [tx_len]; omega), _, rfl, zz _ (by rw [tx_empty, tx_app, tx_len]; simpa using by omega), ?_⟩⟩
        refine ⟨tx [32], rfl, zz _ (by rw [tx_empty, tx_app, tx_app, tx_len]; simp only [List.length_append, List.length_singleton, List.nil_append]; omega), ?_⟩
        refine ⟨_, rfl, _, _, rfl, rfl, ⟨by decide, by decide⟩, .inr ⟨_, rfl, log_lt fr.1, ?_⟩⟩
        rw [num_tx]
        refine ⟨_, rfl, zz _ (by rw [tx_empty, tx_app, tx_app, tx_app, tx_len]; simp only [List.length_append, List.length_singleton, List.nil_append]; omega), ?_⟩
        refine ⟨_, rfl, _, _, rfl, rfl, (by decide : (0 : Int) < 10), .inr ⟨_, rfl, log_lt fr.2, ?_⟩⟩
        rw [num_tx]
        refine ⟨_, rfl, zz _ (by rw [tx_empty, tx_app, tx_app, tx_app, tx_app, tx_len]; simp only [List.length_append, List.length_singleton, List.nil_append]; omega), ?_⟩
        rw [tx_empty, tx_app, tx_app, tx_app, tx_app]
        have e3 : lineE ds = [] ++ textE ds ++ [32] ++ numL (figN (textE ds) / 10) ++ numL (figN (textE ds) % 10) := by
          unfold lineE chk
          simp
        have := k H2 (e.trans e2)
        rw [e3] at this
        exact this
end
end LW
set_option Elab.async false
set_option linter.all false
set_option maxRecDepth 100000
set_option maxHeartbeats 8000000
/-! k11: what may be written, and what is read. -/
namespace LW
open PySem L2
section
variable {P : Program} {w : World} {K : PySem.W.Frag} {mg : Str → Option Value} {base : Heap} {F : Nat → Addr} {D : Nat → FuncData} {C : Nat → Addr}
mutual
def wrD : PyData → Bool
  | .tuple ds => wrAll ds
  | _ => false
def wrAll : List PyData → Bool
  | [] => true
  | d :: ds => (if isTup d = true then wrD d else wholeD d || nameD d) && wrAll ds
end
theorem wr_not {d : PyData} (h : isTup d = false) : wrD d = false := by
  cases d with
  | tuple ds => exact nomatch h
  | _ => simp [wrD]
def wrOne (d : PyData) : Bool := if isTup d = true then wrD d else wholeD d || nameD d
theorem wrAll_map : ∀ ds, wrAll ds = (ds.map wrOne).all id
  | [] => rfl
  | d :: ds => by
    rw [wrAll, wrAll_map ds]
    rfl
def wOk : Nat → PyData → Prop
  | 0, _ => False
  | n + 1, .tuple ds => ds.length ≤ 100000 ∧ ∀ e ∈ ds, wOk n e
  | _ + 1, .str z => z.length ≤ 100000
  | _ + 1, _ => True
def sp_is_writable (K : PySem.W.Frag) (n : Nat) : Sp := fun vs H Q _ => ∃ x d, vs = [x] ∧ Dp K H x d ∧ wOk n d ∧ ∀ H', Same H H' → Q (.bl (wrD d)) H'
theorem sc_is_writable : FnScope ["event", "part"] ["event"] (defScope s_is_writable) := ⟨rfl, rfl, rfl, by decide +kernel, rfl, by decide +kernel, by decide +kernel⟩
theorem ok_is_writable (T : Txt P K mg F D C) : ∀ n : Nat, FnOk P w K mg base CX0 (n + 1) (F 7) (D 7) ["event"] (sp_is_writable K n) := by
  intro n
  induction n with
  | zero =>
    refine T.u_is_writable.ok sc_is_writable (fun vs H Q E h => ?_) (fun cdv A outer s H vs Q E hr h => ?_)
    · obtain ⟨x, d, rfl, _⟩ := h
      rfl
    · obtain ⟨x, d, rfl, _, hd, _⟩ := h
      exact hd.elim
  | succ n ih =>
    refine T.u_is_writable.ok sc_is_writable (fun vs H Q E h => ?_) (fun cdv A outer s H vs Q E hr h => ?_)
    · obtain ⟨x, d, rfl, _⟩ := h
      rfl
    · obtain ⟨x, d, rfl, hx, hd, k⟩ := h
      have G_is_writable := ih
      have G_is_name := ok_is_name (P := P) (w := w) (base := base) T
      have G_is_whole := ok_is_whole (P := P) (w := w) (base := base) T
      refine ⟨_, (pss_cons (ps_if (pt_not (pt_val (pe_callB (r := rIsi K) call_isi (by rfl) T.z_isinstance (by decide +kernel) (pa_cons (pv 0) (pa_cons (pe_bltn (v := .ty "tuple") (by rfl) T.z_tuple (by decide +kernel) rfl) pa_nil))))) (pss_one (ps_ret pe_bl))
        pss_nil)
      (pss_one (ps_ret (pe_callB (r := rAll K) (cr_all rfl) (by rfl) T.z_all (by decide +kernel) (pa_cons (pe_lc (own := [("part", 1)]) (g := gName 1) (by rfl) sc_is_writable.nd (pi_tup (pv 0)) (blkOk_by (own := [("part", 1)]) (N := ["event", "part"]) (sc := defScope s_is_writable) (by decide +kernel)) (fun _ _ _ _ _ => (pg_name (i := 1) sc_is_writable.nd rfl (.inl rfl))) (fun _ _ _ _ _ => pts_nil) (fun _ _ _ _ _ => (pe_ifExp (pt_val (pe_callB (r := rIsi K) call_isi (by rfl) T.z_isinstance (by decide +kernel) (pa_cons (pv 1) (pa_cons (pe_bltn (v := .ty "tuple") (by rfl) T.z_tuple (by decide +kernel) rfl) pa_nil)))) (pe_call G_is_writable (hr.mono (by omega)) (by rfl) T.g_is_writable T.u_is_writable.kp T.b_is_writable .nil pass0 (pa_cons (pv 1) pa_nil)) (pe_or (pe_call G_is_whole (hr.mono (by omega)) (by rfl) T.g_is_whole T.u_is_whole.kp T.b_is_whole .nil pass0 (pa_cons (pv 1) pa_nil)) (pe_one (pe_call G_is_name (hr.mono (by omega)) (by rfl) T.g_is_name T.u_is_name.kp T.b_is_name .nil pass0 (pa_cons (pv 1) pa_nil))))))) pa_nil))))), ?_⟩
      refine ⟨_, rfl, _, _, .type (tyName d), _, isTup d, rfl, .ty _, tyx_d hx, kit_tup d, _, rfl, ?_⟩
      refine ite2 (fun h1 => ?_) (fun h1 => ?_)
      · have e : wrD d = false := by
          exact wr_not (by simpa using h1)
        have := k H (Same.refl H)
        rw [e] at this
        exact this
      · obtain ⟨ds, rfl⟩ : ∃ ds, d = .tuple ds := by
          cases d <;> first | exact ⟨_, rfl⟩ | exact absurd rfl h1
        cases hx with
        | @tup a xs ds sx ax =>
          repeat (first | refine ⟨_, pf (by first | rfl | assumption | exact ⟨_, rfl⟩ | exact ⟨_, by assumption⟩ | exact stO upd_same | exact sqO upd_same), ?_⟩ | refine ⟨_, _, pf (by first | rfl | assumption | exact ⟨_, rfl⟩ | exact ⟨_, by assumption⟩ | exact stO upd_same | exact sqO upd_same), ?_⟩ | refine ⟨_, _, pf (by first | rfl | assumption | exact ⟨_, rfl⟩ | exact ⟨_, by assumption⟩ | exact stO upd_same | exact sqO upd_same), pf (by first | rfl | assumption | exact ⟨_, rfl⟩ | exact ⟨_, by assumption⟩ | exact stO upd_same | exact sqO upd_same), ?_⟩ | refine ⟨_, pf (by first | rfl | assumption | exact ⟨_, rfl⟩ | exact ⟨_, by assumption⟩ | exact stO upd_same | exact sqO upd_same), pf (by first | rfl | assumption | exact ⟨_, rfl⟩ | exact ⟨_, by assumption⟩ | exact stO upd_same | exact sqO upd_same), ?_⟩ | refine ⟨_, _, _, pf (by first | rfl | assumption | exact ⟨_, rfl⟩ | exact ⟨_, by assumption⟩ | exact stO upd_same | exact sqO upd_same), pf (by first | rfl | assumption | exact ⟨_, rfl⟩ | exact ⟨_, by assumption⟩ | exact stO upd_same | exact sqO upd_same), pf (by first | rfl | assumption | exact ⟨_, rfl⟩ | exact ⟨_, by assumption⟩ | exact stO upd_same | exact sqO upd_same), pf (by first | rfl | assumption | exact ⟨_, rfl⟩ | exact ⟨_, by assumption⟩ | exact stO upd_same | exact sqO upd_same), ?_⟩ | refine ⟨_, _, _, pf (by first | rfl | assumption | exact ⟨_, rfl⟩ | exact ⟨_, by assumption⟩ | exact stO upd_same | exact sqO upd_same), pf (by first | rfl | assumption | exact ⟨_, rfl⟩ | exact ⟨_, by assumption⟩ | exact stO upd_same | exact sqO upd_same), pf (by first | rfl | assumption | exact ⟨_, rfl⟩ | exact ⟨_, by assumption⟩ | exact stO upd_same | exact sqO upd_same), ?_⟩ | refine ⟨_, _, _, pf (by first | rfl | assumption | exact ⟨_, rfl⟩ | exact ⟨_, by assumption⟩ | exact stO upd_same | exact sqO upd_same), pf (by first | rfl | assumption | exact ⟨_, rfl⟩ | exact ⟨_, by assumption⟩ | exact stO upd_same | exact sqO upd_same), ?_⟩ | refine ⟨_, _, pf (by first | rfl | assumption | exact ⟨_, rfl⟩ | exact ⟨_, by assumption⟩ | exact stO upd_same | exact sqO upd_same), pf (by first | rfl | assumption | exact ⟨_, rfl⟩ | exact ⟨_, by assumption⟩ | exact stO upd_same | exact sqO upd_same), pf (by first | rfl | assumption | exact ⟨_, rfl⟩ | exact ⟨_, by assumption⟩ | exact stO upd_same | exact sqO upd_same), ?_⟩ | refine ⟨_, _, _, _, pf (by first | rfl | assumption | exact ⟨_, rfl⟩ | exact ⟨_, by assumption⟩ | exact stO upd_same | exact sqO upd_same), pf (by first | rfl | assumption | exact ⟨_, rfl⟩ | exact ⟨_, by assumption⟩ | exact stO upd_same | exact sqO upd_same), pf (by first | rfl | assumption | exact ⟨_, rfl⟩ | exact ⟨_, by assumption⟩ | exact stO upd_same | exact sqO upd_same), ?_⟩ | refine ⟨_, _, _, _, pf (by first | rfl | assumption | exact ⟨_, rfl⟩ | exact ⟨_, by assumption⟩ | exact stO upd_same | exact sqO upd_same), pf (by first | rfl | assumption | exact ⟨_, rfl⟩ | exact ⟨_, by assumption⟩ | exact stO upd_same | exact sqO upd_same), pf (by first | rfl | assumption | exact ⟨_, rfl⟩ | exact ⟨_, by assumption⟩ | exact stO upd_same | exact sqO upd_same), pf (by first | rfl | assumption | exact ⟨_, rfl⟩ | exact ⟨_, by assumption⟩ | exact stO upd_same | exact sqO upd_same), ?_⟩ | refine ⟨pf (by first | rfl | assumption | exact ⟨_, rfl⟩ | exact ⟨_, by assumption⟩ | exact stO upd_same | exact sqO upd_same), ?_⟩)
          refine fun Dl nD => lc_map walk_tup nD (fun i => .bl (wrOne (ds.getD i .none))) (by rw [ax.length]; exact Nat.le_trans hd.1 (by decide)) (fun H' e => e.sqt sx) (fun _ _ _ _ _ y => by obtain ⟨rfl, _⟩ := y; exact Same.refl _) (fun x => rfl) (fun i x H1 H2 hi e y Q' q => ?_) (fun H1 e hD => ?_)
          · obtain ⟨rfl, hx⟩ := y
            obtain ⟨d, hd'⟩ : ∃ d, ds[i]? = some d := ⟨ds[i]'(by rw [← ax.length]; exact hi), by simp⟩
            obtain ⟨v, hv, hvd⟩ := ax.get hd'
            rw [hx] at hv
            cases hv
            rw [getD_some hd'] at q
            have hm := List.mem_of_getElem? hd'
            have hvd2 := Dp.mono e _ _ hvd
            have hdd := hd.2 d hm
            refine ⟨_, rfl, _, _, .type (tyName d), _, isTup d, rfl, .ty _, tyx_d hvd2, kit_tup d, _, rfl, ?_⟩
            refine ite2 (fun h2 => ?_) (fun h2 => ?_)
            · have e3 : wrOne d = wrD d := if_pos h2
              rw [e3] at q
              exact ⟨_, rfl, _, _, rfl, hvd2, hdd, fun H' e' => q H' e'⟩
            · have e3 : wrOne d = (wholeD d || nameD d) := if_neg h2
              rw [e3] at q
              refine ⟨_, rfl, _, _, rfl, hvd2, _, rfl, ite2 (fun h3 => ?_) (fun h3 => ?_)⟩
              · rw [h3] at q
                exact q _ (Same.refl _)
              · have h3' : wholeD d = false := by simpa using h3
                rw [h3'] at q
                refine ⟨_, rfl, _, _, rfl, hvd2, fun z ez => ?_, fun H' e' => q H' e'⟩
                subst ez
                cases n with
                | zero => exact hdd.elim
                | succ n => exact hdd
          · have e2 : (List.range xs.length).map (fun i => V.bl (wrOne (ds.getD i .none))) = (ds.map wrOne).map V.bl := by
              rw [ax.length, range_map ds PyData.none fun d => V.bl (wrOne d)]
              simp
            rw [e2] at hD
            refine ⟨Dl, _, rfl, sqO hD, ?_⟩
            have := k H1 e
            rw [wrD, wrAll_map] at this
            exact this
def numP : Option Int → V
  | none => .non
  | some i => .int i
def sp_number_in : Sp := fun vs H Q _ => ∃ l, vs = [.str (tx l)] ∧ l.length ≤ 100000 ∧ ∀ H', Same H H' → Q (numP (numIn l)) H'
theorem sc_number_in : FnScope ["word", "digits", "sign"] ["word"] (defScope s_number_in) := ⟨rfl, rfl, rfl, by decide +kernel, rfl, by decide +kernel, by decide +kernel⟩
theorem ok_number_in (T : Txt P K mg F D C) : FnOk P w K mg base CX0 1 (F 8) (D 8) ["word"] sp_number_in := by
  refine T.u_number_in.ok sc_number_in (fun vs H Q E h => ?_) (fun cdv A outer s H vs Q E hr h => ?_)
  · obtain ⟨l, rfl, _⟩ := h
    rfl
  · obtain ⟨l, rfl, hl, k⟩ := h
    have zz : ∀ n : Nat, n ≤ 100000 → n ≤ sizeLine := fun n h => Nat.le_trans h (by decide)
    refine ⟨_, (pss_mid (ps_set (i := 1) sc_number_in.nd rfl (.inl rfl) (pe_ifExp (pt_cmpR op_eq (pe_slice sl_str (pv 0) po_none (po_some pe_int)) pe_str (nomark _)) (pe_slice sl_str (pv 0) (po_some pe_int) po_none) (pv 0)))
      (pss_cons (ps_if (PW.pt (pw_or (pt_not (pt_chain op_le op_le pe_int (pe_callB call_len_str (by rfl) T.z_len (by decide +kernel) (pa_cons (pv 1) pa_nil)) pe_int)) (pw_or1 (pt_not (pt_val (pe_callB (r := rAll K) (cr_all rfl) (by rfl) T.z_all (by decide +kernel) (pa_cons (pe_lc (own := [("sign", 2)]) (g := gName 2) (by rfl) sc_number_in.nd (pi_str (pv 1)) (blkOk_by (own := [("sign", 2)]) (N := ["word", "digits", "sign"]) (sc := defScope s_number_in) (by decide +kernel)) (fun _ _ _ _ _ => (pg_name (i := 2) sc_number_in.nd rfl (.inl rfl))) (fun _ _ _ _ _ => pts_nil) (fun _ _ _ _ _ => (pe_cmpR op_in_sign (pv 2) (pe_glob (v := .str tFIGURES) (by rfl) T.s_FIGURES.choose_spec ⟨_, rfl⟩) rfl))) pa_nil))))))) (pss_one (ps_ret pe_non))
        pss_nil)
      (pss_cons (ps_if (PW.pt (pw_and (pt_cmpR op_eq (pe_ix ix_str (pv 1) pe_int (fun _ _ => rfl)) pe_str (nomark _)) (pw_and1 (pt_cmpR op_ne (pv 0) pe_str (nomark _))))) (pss_one (ps_ret pe_non))
        pss_nil)
      (pss_one (ps_ret (pe_ifExp (pt_cmpR op_eq (pe_slice sl_str (pv 0) po_none (po_some pe_int)) pe_str (nomark _)) (pe_un un_neg (pe_callTy call_int_str (by rfl) T.z_int (by decide +kernel) (pa_cons (pv 1) pa_nil))) (pe_callTy call_int_str (by rfl) T.z_int (by decide +kernel) (pa_cons (pv 1) pa_nil)))))))), ?_⟩
    have sz : (tx l).length ≤ sizeLine := zz _ (by rw [tx_len]; exact hl)
    have dl : (digs l).length ≤ l.length := by
      unfold digs
      by_cases z : l.take 1 = [45]
      · rw [if_pos z, List.length_drop]
        omega
      · rw [if_neg z]
        exact Nat.le_refl _
    have cm : decide (V.str (cutS (tx l) none (some 1)) = V.str (Str.ofString "-")) = decide (l.take 1 = [45]) := by
      rw [show (some 1 : Option Int) = some ((1 : Nat) : Int) from rfl, cut_to]
      exact dec_tx (l.take 1) [45]
    refine ⟨fun τ G => G = H ∧ τ = [some (.str (tx l)), some (.str (tx (digs l))), none], ?_, ?_⟩
    · repeat (first | refine ⟨_, pf (by first | rfl | assumption | exact ⟨_, rfl⟩ | exact ⟨_, by assumption⟩ | exact stO upd_same | exact sqO upd_same), ?_⟩ | refine ⟨_, _, pf (by first | rfl | assumption | exact ⟨_, rfl⟩ | exact ⟨_, by assumption⟩ | exact stO upd_same | exact sqO upd_same), ?_⟩ | refine ⟨_, _, pf (by first | rfl | assumption | exact ⟨_, rfl⟩ | exact ⟨_, by assumption⟩ | exact stO upd_same | exact sqO upd_same), pf (by first | rfl | assumption | exact ⟨_, rfl⟩ | exact ⟨_, by assumption⟩ | exact stO upd_same | exact sqO upd_same), ?_⟩ | refine ⟨_, pf (by first | rfl | assumption | exact ⟨_, rfl⟩ | exact ⟨_, by assumption⟩ | exact stO upd_same | exact sqO upd_same), pf (by first | rfl | assumption | exact ⟨_, rfl⟩ | exact ⟨_, by assumption⟩ | exact stO upd_same | exact sqO upd_same), ?_⟩ | refine ⟨_, _, _, pf (by first | rfl | assumption | exact ⟨_, rfl⟩ | exact ⟨_, by assumption⟩ | exact stO upd_same | exact sqO upd_same), pf (by first | rfl | assumption | exact ⟨_, rfl⟩ | exact ⟨_, by assumption⟩ | exact stO upd_same | exact sqO upd_same), pf (by first | rfl | assumption | exact ⟨_, rfl⟩ | exact ⟨_, by assumption⟩ | exact stO upd_same | exact sqO upd_same), pf (by first | rfl | assumption | exact ⟨_, rfl⟩ | exact ⟨_, by assumption⟩ | exact stO upd_same | exact sqO upd_same), ?_⟩ | refine ⟨_, _, _, pf (by first | rfl | assumption | exact ⟨_, rfl⟩ | exact ⟨_, by assumption⟩ | exact stO upd_same | exact sqO upd_same), pf (by first | rfl | assumption | exact ⟨_, rfl⟩ | exact ⟨_, by assumption⟩ | exact stO upd_same | exact sqO upd_same), pf (by first | rfl | assumption | exact ⟨_, rfl⟩ | exact ⟨_, by assumption⟩ | exact stO upd_same | exact sqO upd_same), ?_⟩ | refine ⟨_, _, _, pf (by first | rfl | assumption | exact ⟨_, rfl⟩ | exact ⟨_, by assumption⟩ | exact stO upd_same | exact sqO upd_same), pf (by first | rfl | assumption | exact ⟨_, rfl⟩ | exact ⟨_, by assumption⟩ | exact stO upd_same | exact sqO upd_same), ?_⟩ | refine ⟨_, _, pf (by first | rfl | assumption | exact ⟨_, rfl⟩ | exact ⟨_, by assumption⟩ | exact stO upd_same | exact sqO upd_same), pf (by first | rfl | assumption | exact ⟨_, rfl⟩ | exact ⟨_, by assumption⟩ | exact stO upd_same | exact sqO upd_same), pf (by first | rfl | assumption | exact ⟨_, rfl⟩ | exact ⟨_, by assumption⟩ | exact stO upd_same | exact sqO upd_same), ?_⟩ | refine ⟨_, _, _, _, pf (by first | rfl | assumption | exact ⟨_, rfl⟩ | exact ⟨_, by assumption⟩ | exact stO upd_same | exact sqO upd_same), pf (by first | rfl | assumption | exact ⟨_, rfl⟩ | exact ⟨_, by assumption⟩ | exact stO upd_same | exact sqO upd_same), pf (by first | rfl | assumption | exact ⟨_, rfl⟩ | exact ⟨_, by assumption⟩ | exact stO upd_same | exact sqO upd_same), ?_⟩ | refine ⟨_, _, _, _, pf (by first | rfl | assumption | exact ⟨_, rfl⟩ | exact ⟨_, by assumption⟩ | exact stO upd_same | exact sqO upd_same), pf (by first | rfl | assumption | exact ⟨_, rfl⟩ | exact ⟨_, by assumption⟩ | exact stO upd_same | exact sqO upd_same), pf (by first | rfl | assumption | exact ⟨_, rfl⟩ | exact ⟨_, by assumption⟩ | exact stO upd_same | exact sqO upd_same), pf (by first | rfl | assumption | exact ⟨_, rfl⟩ | exact ⟨_, by assumption⟩ | exact stO upd_same | exact sqO upd_same), ?_⟩ | refine ⟨pf (by first | rfl | assumption | exact ⟨_, rfl⟩ | exact ⟨_, by assumption⟩ | exact stO upd_same | exact sqO upd_same), ?_⟩)
      rw [cm]
      refine ite2 (fun h1 => ?_) (fun h1 => ?_)
      · repeat (first | refine ⟨_, pf (by first | rfl | assumption | exact ⟨_, rfl⟩ | exact ⟨_, by assumption⟩ | exact stO upd_same | exact sqO upd_same), ?_⟩ | refine ⟨_, _, pf (by first | rfl | assumption | exact ⟨_, rfl⟩ | exact ⟨_, by assumption⟩ | exact stO upd_same | exact sqO upd_same), ?_⟩ | refine ⟨_, _, pf (by first | rfl | assumption | exact ⟨_, rfl⟩ | exact ⟨_, by assumption⟩ | exact stO upd_same | exact sqO upd_same), pf (by first | rfl | assumption | exact ⟨_, rfl⟩ | exact ⟨_, by assumption⟩ | exact stO upd_same | exact sqO upd_same), ?_⟩ | refine ⟨_, pf (by first | rfl | assumption | exact ⟨_, rfl⟩ | exact ⟨_, by assumption⟩ | exact stO upd_same | exact sqO upd_same), pf (by first | rfl | assumption | exact ⟨_, rfl⟩ | exact ⟨_, by assumption⟩ | exact stO upd_same | exact sqO upd_same), ?_⟩ | refine ⟨_, _, _, pf (by first | rfl | assumption | exact ⟨_, rfl⟩ | exact ⟨_, by assumption⟩ | exact stO upd_same | exact sqO upd_same), pf (by first | rfl | assumption | exact ⟨_, rfl⟩ | exact ⟨_, by assumption⟩ | exact stO upd_same | exact sqO upd_same), pf (by first | rfl | assumption | exact ⟨_, rfl⟩ | exact ⟨_, by assumption⟩ | exact stO upd_same | exact sqO upd_same), pf (by first | rfl | assumption | exact ⟨_, rfl⟩ | exact ⟨_, by assumption⟩ | exact stO upd_same | exact sqO upd_same), ?_⟩ | refine ⟨_, _, _, pf (by first | rfl | assumption | exact ⟨_, rfl⟩ | exact ⟨_, by assumption⟩ | exact stO upd_same | exact sqO upd_same), pf (by first | rfl | assumption | exact ⟨_, rfl⟩ | exact ⟨_, by assumption⟩ | exact stO upd_same | exact sqO upd_same), pf (by first | rfl | assumption | exact ⟨_, rfl⟩ | exact ⟨_, by assumption⟩ | exact stO upd_same | exact sqO upd_same), ?_⟩ | refine ⟨_, _, _, pf (by first | rfl | assumption | exact ⟨_, rfl⟩ | exact ⟨_, by assumption⟩ | exact stO upd_same | exact sqO upd_same), pf (by first | rfl | assumption | exact ⟨_, rfl⟩ | exact ⟨_, by assumption⟩ | exact stO upd_same | exact sqO upd_same), ?_⟩ | refine ⟨_, _, pf (by first | rfl | assumption | exact ⟨_, rfl⟩ | exact ⟨_, by assumption⟩ | exact stO upd_same | exact sqO upd_same), pf (by first | rfl | assumption | exact ⟨_, rfl⟩ | exact ⟨_, by assumption⟩ | exact stO upd_same | exact sqO upd_same), pf (by first | rfl | assumption | exact ⟨_, rfl⟩ | exact ⟨_, by assumption⟩ | exact stO upd_same | exact sqO upd_same), ?_⟩ | refine ⟨_, _, _, _, pf (by first | rfl | assumption | exact ⟨_, rfl⟩ | exact ⟨_, by assumption⟩ | exact stO upd_same | exact sqO upd_same), pf (by first | rfl | assumption | exact ⟨_, rfl⟩ | exact ⟨_, by assumption⟩ | exact stO upd_same | exact sqO upd_same), pf (by first | rfl | assumption | exact ⟨_, rfl⟩ | exact ⟨_, by assumption⟩ | exact stO upd_same | exact sqO upd_same), ?_⟩ | refine ⟨_, _, _, _, pf (by first | rfl | assumption | exact ⟨_, rfl⟩ | exact ⟨_, by assumption⟩ | exact stO upd_same | exact sqO upd_same), pf (by first | rfl | assumption | exact ⟨_, rfl⟩ | exact ⟨_, by assumption⟩ | exact stO upd_same | exact sqO upd_same), pf (by first | rfl | assumption | exact ⟨_, rfl⟩ | exact ⟨_, by assumption⟩ | exact stO upd_same | exact sqO upd_same), pf (by first | rfl | assumption | exact ⟨_, rfl⟩ | exact ⟨_, by assumption⟩ | exact stO upd_same | exact sqO upd_same), ?_⟩ | refine ⟨pf (by first | rfl | assumption | exact ⟨_, rfl⟩ | exact ⟨_, by assumption⟩ | exact stO upd_same | exact sqO upd_same), ?_⟩)
        have e : digs l = l.drop 1 := if_pos (of_decide_eq_true h1)
        rw [e, ← cut_from l 1]
        rfl
      · repeat (first | refine ⟨_, pf (by first | rfl | assumption | exact ⟨_, rfl⟩ | exact ⟨_, by assumption⟩ | exact stO upd_same | exact sqO upd_same), ?_⟩ | refine ⟨_, _, pf (by first | rfl | assumption | exact ⟨_, rfl⟩ | exact ⟨_, by assumption⟩ | exact stO upd_same | exact sqO upd_same), ?_⟩ | refine ⟨_, _, pf (by first | rfl | assumption | exact ⟨_, rfl⟩ | exact ⟨_, by assumption⟩ | exact stO upd_same | exact sqO upd_same), pf (by first | rfl | assumption | exact ⟨_, rfl⟩ | exact ⟨_, by assumption⟩ | exact stO upd_same | exact sqO upd_same), ?_⟩ | refine ⟨_, pf (by first | rfl | assumption | exact ⟨_, rfl⟩ | exact ⟨_, by assumption⟩ | exact stO upd_same | exact sqO upd_same), pf (by first | rfl | assumption | exact ⟨_, rfl⟩ | exact ⟨_, by assumption⟩ | exact stO upd_same | exact sqO upd_same), ?_⟩ | refine ⟨_, _, _, pf (by first | rfl | assumption | exact ⟨_, rfl⟩ | exact ⟨_, by assumption⟩ | exact stO upd_same | exact sqO upd_same), pf (by first | rfl | assumption | exact ⟨_, rfl⟩ | exact ⟨_, by assumption⟩ | exact stO upd_same | exact sqO upd_same), pf (by first | rfl | assumption | exact ⟨_, rfl⟩ | exact ⟨_, by assumption⟩ | exact stO upd_same | exact sqO upd_same), pf (by first | rfl | assumption | exact ⟨_, rfl⟩ | exact ⟨_, by assumption⟩ | exact stO upd_same | exact sqO upd_same), ?_⟩ | refine ⟨_, _, _, pf (by first | rfl | assumption | exact ⟨_, rfl⟩ | exact ⟨_, by assumption⟩ | exact stO upd_same | exact sqO upd_same), pf (by first | rfl | assumption | exact ⟨_, rfl⟩ | exact ⟨_, by assumption⟩ | exact stO upd_same | exact sqO upd_same), pf (by first | rfl | assumption | exact ⟨_, rfl⟩ | exact ⟨_, by assumption⟩ | exact stO upd_same | exact sqO upd_same), ?_⟩ | refine ⟨_, _, _, pf (by first | rfl | assumption | exact ⟨_, rfl⟩ | exact ⟨_, by assumption⟩ | exact stO upd_same | exact sqO upd_same), pf (by first | rfl | assumption | exact ⟨_, rfl⟩ | exact ⟨_, by assumption⟩ | exact stO upd_same | exact sqO upd_same), ?_⟩ | refine ⟨_, _, pf (by first | rfl | assumption | exact ⟨_, rfl⟩ | exact ⟨_, by assumption⟩ | exact stO upd_same | exact sqO upd_same), pf (by first | rfl | assumption | exact ⟨_, rfl⟩ | exact ⟨_, by assumption⟩ | exact stO upd_same | exact sqO upd_same), pf (by first | rfl | assumption | exact ⟨_, rfl⟩ | exact ⟨_, by assumption⟩ | exact stO upd_same | exact sqO upd_same), ?_⟩ | refine ⟨_, _, _, _, pf (by first | rfl | assumption | exact ⟨_, rfl⟩ | exact ⟨_, by assumption⟩ | exact stO upd_same | exact sqO upd_same), pf (by first | rfl | assumption | exact ⟨_, rfl⟩ | exact ⟨_, by assumption⟩ | exact stO upd_same | exact sqO upd_same), pf (by first | rfl | assumption | exact ⟨_, rfl⟩ | exact ⟨_, by assumption⟩ | exact stO upd_same | exact sqO upd_same), ?_⟩ | refine ⟨_, _, _, _, pf (by first | rfl | assumption | exact ⟨_, rfl⟩ | exact ⟨_, by assumption⟩ | exact stO upd_same | exact sqO upd_same), pf (by first | rfl | assumption | exact ⟨_, rfl⟩ | exact ⟨_, by assumption⟩ | exact stO upd_same | exact sqO upd_same), pf (by first | rfl | assumption | exact ⟨_, rfl⟩ | exact ⟨_, by assumption⟩ | exact stO upd_same | exact sqO upd_same), pf (by first | rfl | assumption | exact ⟨_, rfl⟩ | exact ⟨_, by assumption⟩ | exact stO upd_same | exact sqO upd_same), ?_⟩ | refine ⟨pf (by first | rfl | assumption | exact ⟨_, rfl⟩ | exact ⟨_, by assumption⟩ | exact stO upd_same | exact sqO upd_same), ?_⟩)
        have e : digs l = l := if_neg (fun q => h1 (decide_eq_true q))
        rw [e]
        rfl
    · rintro τ G ⟨rfl, rfl⟩
      have out : numIn l = none → Q .non G := fun e => by
        have := k G (Same.refl G)
        rw [e] at this
        exact this
      have szd : (tx (digs l)).length ≤ sizeLine := zz _ (by rw [tx_len]; omega)
      repeat (first | refine ⟨_, pf (by first | rfl | assumption | exact ⟨_, rfl⟩ | exact ⟨_, by assumption⟩ | exact stO upd_same | exact sqO upd_same), ?_⟩ | refine ⟨_, _, pf (by first | rfl | assumption | exact ⟨_, rfl⟩ | exact ⟨_, by assumption⟩ | exact stO upd_same | exact sqO upd_same), ?_⟩ | refine ⟨_, _, pf (by first | rfl | assumption | exact ⟨_, rfl⟩ | exact ⟨_, by assumption⟩ | exact stO upd_same | exact sqO upd_same), pf (by first | rfl | assumption | exact ⟨_, rfl⟩ | exact ⟨_, by assumption⟩ | exact stO upd_same | exact sqO upd_same), ?_⟩ | refine ⟨_, pf (by first | rfl | assumption | exact ⟨_, rfl⟩ | exact ⟨_, by assumption⟩ | exact stO upd_same | exact sqO upd_same), pf (by first | rfl | assumption | exact ⟨_, rfl⟩ | exact ⟨_, by assumption⟩ | exact stO upd_same | exact sqO upd_same), ?_⟩ | refine ⟨_, _, _, pf (by first | rfl | assumption | exact ⟨_, rfl⟩ | exact ⟨_, by assumption⟩ | exact stO upd_same | exact sqO upd_same), pf (by first | rfl | assumption | exact ⟨_, rfl⟩ | exact ⟨_, by assumption⟩ | exact stO upd_same | exact sqO upd_same), pf (by first | rfl | assumption | exact ⟨_, rfl⟩ | exact ⟨_, by assumption⟩ | exact stO upd_same | exact sqO upd_same), pf (by first | rfl | assumption | exact ⟨_, rfl⟩ | exact ⟨_, by assumption⟩ | exact stO upd_same | exact sqO upd_same), ?_⟩ | refine ⟨_, _, _, pf (by first | rfl | assumption | exact ⟨_, rfl⟩ | exact ⟨_, by assumption⟩ | exact stO upd_same | exact sqO upd_same), pf (by first | rfl | assumption | exact ⟨_, rfl⟩ | exact ⟨_, by assumption⟩ | exact stO upd_same | exact sqO upd_same), pf (by first | rfl | assumption | exact ⟨_, rfl⟩ | exact ⟨_, by assumption⟩ | exact stO upd_same | exact sqO upd_same), ?_⟩ | refine ⟨_, _, _, pf (by first | rfl | assumption | exact ⟨_, rfl⟩ | exact ⟨_, by assumption⟩ | exact stO upd_same | exact sqO upd_same), pf (by first | rfl | assumption | exact ⟨_, rfl⟩ | exact ⟨_, by assumption⟩ | exact stO upd_same | exact sqO upd_same), ?_⟩ | refine ⟨_, _, pf (by first | rfl | assumption | exact ⟨_, rfl⟩ | exact ⟨_, by assumption⟩ | exact stO upd_same | exact sqO upd_same), pf (by first | rfl | assumption | exact ⟨_, rfl⟩ | exact ⟨_, by assumption⟩ | exact stO upd_same | exact sqO upd_same), pf (by first | rfl | assumption | exact ⟨_, rfl⟩ | exact ⟨_, by assumption⟩ | exact stO upd_same | exact sqO upd_same), ?_⟩ | refine ⟨_, _, _, _, pf (by first | rfl | assumption | exact ⟨_, rfl⟩ | exact ⟨_, by assumption⟩ | exact stO upd_same | exact sqO upd_same), pf (by first | rfl | assumption | exact ⟨_, rfl⟩ | exact ⟨_, by assumption⟩ | exact stO upd_same | exact sqO upd_same), pf (by first | rfl | assumption | exact ⟨_, rfl⟩ | exact ⟨_, by assumption⟩ | exact stO upd_same | exact sqO upd_same), ?_⟩ | refine ⟨_, _, _, _, pf (by first | rfl | assumption | exact ⟨_, rfl⟩ | exact ⟨_, by assumption⟩ | exact stO upd_same | exact sqO upd_same), pf (by first | rfl | assumption | exact ⟨_, rfl⟩ | exact ⟨_, by assumption⟩ | exact stO upd_same | exact sqO upd_same), pf (by first | rfl | assumption | exact ⟨_, rfl⟩ | exact ⟨_, by assumption⟩ | exact stO upd_same | exact sqO upd_same), pf (by first | rfl | assumption | exact ⟨_, rfl⟩ | exact ⟨_, by assumption⟩ | exact stO upd_same | exact sqO upd_same), ?_⟩ | refine ⟨pf (by first | rfl | assumption | exact ⟨_, rfl⟩ | exact ⟨_, by assumption⟩ | exact stO upd_same | exact sqO upd_same), ?_⟩)
      refine ite2 (fun h1 => ?_) (fun h1 => ?_)
      · repeat (first | refine ⟨_, pf (by first | rfl | assumption | exact ⟨_, rfl⟩ | exact ⟨_, by assumption⟩ | exact stO upd_same | exact sqO upd_same), ?_⟩ | refine ⟨_, _, pf (by first | rfl | assumption | exact ⟨_, rfl⟩ | exact ⟨_, by assumption⟩ | exact stO upd_same | exact sqO upd_same), ?_⟩ | refine ⟨_, _, pf (by first | rfl | assumption | exact ⟨_, rfl⟩ | exact ⟨_, by assumption⟩ | exact stO upd_same | exact sqO upd_same), pf (by first | rfl | assumption | exact ⟨_, rfl⟩ | exact ⟨_, by assumption⟩ | exact stO upd_same | exact sqO upd_same), ?_⟩ | refine ⟨_, pf (by first | rfl | assumption | exact ⟨_, rfl⟩ | exact ⟨_, by assumption⟩ | exact stO upd_same | exact sqO upd_same), pf (by first | rfl | assumption | exact ⟨_, rfl⟩ | exact ⟨_, by assumption⟩ | exact stO upd_same | exact sqO upd_same), ?_⟩ | refine ⟨_, _, _, pf (by first | rfl | assumption | exact ⟨_, rfl⟩ | exact ⟨_, by assumption⟩ | exact stO upd_same | exact sqO upd_same), pf (by first | rfl | assumption | exact ⟨_, rfl⟩ | exact ⟨_, by assumption⟩ | exact stO upd_same | exact sqO upd_same), pf (by first | rfl | assumption | exact ⟨_, rfl⟩ | exact ⟨_, by assumption⟩ | exact stO upd_same | exact sqO upd_same), pf (by first | rfl | assumption | exact ⟨_, rfl⟩ | exact ⟨_, by assumption⟩ | exact stO upd_same | exact sqO upd_same), ?_⟩ | refine ⟨_, _, _, pf (by first | rfl | assumption | exact ⟨_, rfl⟩ | exact ⟨_, by assumption⟩ | exact stO upd_same | exact sqO upd_same), pf (by first | rfl | assumption | exact ⟨_, rfl⟩ | exact ⟨_, by assumption⟩ | exact stO upd_same | exact sqO upd_same), pf (by first | rfl | assumption | exact ⟨_, rfl⟩ | exact ⟨_, by assumption⟩ | exact stO upd_same | exact sqO upd_same), ?_⟩ | refine ⟨_, _, _, pf (by first | rfl | assumption | exact ⟨_, rfl⟩ | exact ⟨_, by assumption⟩ | exact stO upd_same | exact sqO upd_same), pf (by first | rfl | assumption | exact ⟨_, rfl⟩ | exact ⟨_, by assumption⟩ | exact stO upd_same | exact sqO upd_same), ?_⟩ | refine ⟨_, _, pf (by first | rfl | assumption | exact ⟨_, rfl⟩ | exact ⟨_, by assumption⟩ | exact stO upd_same | exact sqO upd_same), pf (by first | rfl | assumption | exact ⟨_, rfl⟩ | exact ⟨_, by assumption⟩ | exact stO upd_same | exact sqO upd_same), pf (by first | rfl | assumption | exact ⟨_, rfl⟩ | exact ⟨_, by assumption⟩ | exact stO upd_same | exact sqO upd_same), ?_⟩ | refine ⟨_, _, _, _, pf (by first | rfl | assumption | exact ⟨_, rfl⟩ | exact ⟨_, by assumption⟩ | exact stO upd_same | exact sqO upd_same), pf (by first | rfl | assumption | exact ⟨_, rfl⟩ | exact ⟨_, by assumption⟩ | exact stO upd_same | exact sqO upd_same), pf (by first | rfl | assumption | exact ⟨_, rfl⟩ | exact ⟨_, by assumption⟩ | exact stO upd_same | exact sqO upd_same), ?_⟩ | refine ⟨_, _, _, _, pf (by first | rfl | assumption | exact ⟨_, rfl⟩ | exact ⟨_, by assumption⟩ | exact stO upd_same | exact sqO upd_same), pf (by first | rfl | assumption | exact ⟨_, rfl⟩ | exact ⟨_, by assumption⟩ | exact stO upd_same | exact sqO upd_same), pf (by first | rfl | assumption | exact ⟨_, rfl⟩ | exact ⟨_, by assumption⟩ | exact stO upd_same | exact sqO upd_same), pf (by first | rfl | assumption | exact ⟨_, rfl⟩ | exact ⟨_, by assumption⟩ | exact stO upd_same | exact sqO upd_same), ?_⟩ | refine ⟨pf (by first | rfl | assumption | exact ⟨_, rfl⟩ | exact ⟨_, by assumption⟩ | exact stO upd_same | exact sqO upd_same), ?_⟩)
        rw [tx_len] at h1
        have q1 : 1 ≤ (digs l).length := by
          have := of_decide_eq_true h1
          omega
        refine ite2 (fun h2 => ?_) (fun h2 => ?_)
        · rw [tx_len] at h2
          repeat (first | refine ⟨_, pf (by first | rfl | assumption | exact ⟨_, rfl⟩ | exact ⟨_, by assumption⟩ | exact stO upd_same | exact sqO upd_same), ?_⟩ | refine ⟨_, _, pf (by first | rfl | assumption | exact ⟨_, rfl⟩ | exact ⟨_, by assumption⟩ | exact stO upd_same | exact sqO upd_same), ?_⟩ | refine ⟨_, _, pf (by first | rfl | assumption | exact ⟨_, rfl⟩ | exact ⟨_, by assumption⟩ | exact stO upd_same | exact sqO upd_same), pf (by first | rfl | assumption | exact ⟨_, rfl⟩ | exact ⟨_, by assumption⟩ | exact stO upd_same | exact sqO upd_same), ?_⟩ | refine ⟨_, pf (by first | rfl | assumption | exact ⟨_, rfl⟩ | exact ⟨_, by assumption⟩ | exact stO upd_same | exact sqO upd_same), pf (by first | rfl | assumption | exact ⟨_, rfl⟩ | exact ⟨_, by assumption⟩ | exact stO upd_same | exact sqO upd_same), ?_⟩ | refine ⟨_, _, _, pf (by first | rfl | assumption | exact ⟨_, rfl⟩ | exact ⟨_, by assumption⟩ | exact stO upd_same | exact sqO upd_same), pf (by first | rfl | assumption | exact ⟨_, rfl⟩ | exact ⟨_, by assumption⟩ | exact stO upd_same | exact sqO upd_same), pf (by first | rfl | assumption | exact ⟨_, rfl⟩ | exact ⟨_, by assumption⟩ | exact stO upd_same | exact sqO upd_same), pf (by first | rfl | assumption | exact ⟨_, rfl⟩ | exact ⟨_, by assumption⟩ | exact stO upd_same | exact sqO upd_same), ?_⟩ | refine ⟨_, _, _, pf (by first | rfl | assumption | exact ⟨_, rfl⟩ | exact ⟨_, by assumption⟩ | exact stO upd_same | exact sqO upd_same), pf (by first | rfl | assumption | exact ⟨_, rfl⟩ | exact ⟨_, by assumption⟩ | exact stO upd_same | exact sqO upd_same), pf (by first | rfl | assumption | exact ⟨_, rfl⟩ | exact ⟨_, by assumption⟩ | exact stO upd_same | exact sqO upd_same), ?_⟩ | refine ⟨_, _, _, pf (by first | rfl | assumption | exact ⟨_, rfl⟩ | exact ⟨_, by assumption⟩ | exact stO upd_same | exact sqO upd_same), pf (by first | rfl | assumption | exact ⟨_, rfl⟩ | exact ⟨_, by assumption⟩ | exact stO upd_same | exact sqO upd_same), ?_⟩ | refine ⟨_, _, pf (by first | rfl | assumption | exact ⟨_, rfl⟩ | exact ⟨_, by assumption⟩ | exact stO upd_same | exact sqO upd_same), pf (by first | rfl | assumption | exact ⟨_, rfl⟩ | exact ⟨_, by assumption⟩ | exact stO upd_same | exact sqO upd_same), pf (by first | rfl | assumption | exact ⟨_, rfl⟩ | exact ⟨_, by assumption⟩ | exact stO upd_same | exact sqO upd_same), ?_⟩ | refine ⟨_, _, _, _, pf (by first | rfl | assumption | exact ⟨_, rfl⟩ | exact ⟨_, by assumption⟩ | exact stO upd_same | exact sqO upd_same), pf (by first | rfl | assumption | exact ⟨_, rfl⟩ | exact ⟨_, by assumption⟩ | exact stO upd_same | exact sqO upd_same), pf (by first | rfl | assumption | exact ⟨_, rfl⟩ | exact ⟨_, by assumption⟩ | exact stO upd_same | exact sqO upd_same), ?_⟩ | refine ⟨_, _, _, _, pf (by first | rfl | assumption | exact ⟨_, rfl⟩ | exact ⟨_, by assumption⟩ | exact stO upd_same | exact sqO upd_same), pf (by first | rfl | assumption | exact ⟨_, rfl⟩ | exact ⟨_, by assumption⟩ | exact stO upd_same | exact sqO upd_same), pf (by first | rfl | assumption | exact ⟨_, rfl⟩ | exact ⟨_, by assumption⟩ | exact stO upd_same | exact sqO upd_same), pf (by first | rfl | assumption | exact ⟨_, rfl⟩ | exact ⟨_, by assumption⟩ | exact stO upd_same | exact sqO upd_same), ?_⟩ | refine ⟨pf (by first | rfl | assumption | exact ⟨_, rfl⟩ | exact ⟨_, by assumption⟩ | exact stO upd_same | exact sqO upd_same), ?_⟩)
          refine out ?_
          unfold numIn
          refine if_pos ?_
          have : ¬ (digs l).length ≤ 9 := fun q => by
            have : decide (((digs l).length : Int) ≤ 9) = true := decide_eq_true (by omega)
            rw [this] at h2
            exact absurd h2 (by decide)
          rw [decide_eq_false this]
          simp
        · rw [tx_len] at h2
          have q2 : (digs l).length ≤ 9 := by
            have : ((digs l).length : Int) ≤ 9 := by simpa using h2
            omega
          repeat (first | refine ⟨_, pf (by first | rfl | assumption | exact ⟨_, rfl⟩ | exact ⟨_, by assumption⟩ | exact stO upd_same | exact sqO upd_same), ?_⟩ | refine ⟨_, _, pf (by first | rfl | assumption | exact ⟨_, rfl⟩ | exact ⟨_, by assumption⟩ | exact stO upd_same | exact sqO upd_same), ?_⟩ | refine ⟨_, _, pf (by first | rfl | assumption | exact ⟨_, rfl⟩ | exact ⟨_, by assumption⟩ | exact stO upd_same | exact sqO upd_same), pf (by first | rfl | assumption | exact ⟨_, rfl⟩ | exact ⟨_, by assumption⟩ | exact stO upd_same | exact sqO upd_same), ?_⟩ | refine ⟨_, pf (by first | rfl | assumption | exact ⟨_, rfl⟩ | exact ⟨_, by assumption⟩ | exact stO upd_same | exact sqO upd_same), pf (by first | rfl | assumption | exact ⟨_, rfl⟩ | exact ⟨_, by assumption⟩ | exact stO upd_same | exact sqO upd_same), ?_⟩ | refine ⟨_, _, _, pf (by first | rfl | assumption | exact ⟨_, rfl⟩ | exact ⟨_, by assumption⟩ | exact stO upd_same | exact sqO upd_same), pf (by first | rfl | assumption | exact ⟨_, rfl⟩ | exact ⟨_, by assumption⟩ | exact stO upd_same | exact sqO upd_same), pf (by first | rfl | assumption | exact ⟨_, rfl⟩ | exact ⟨_, by assumption⟩ | exact stO upd_same | exact sqO upd_same), pf (by first | rfl | assumption | exact ⟨_, rfl⟩ | exact ⟨_, by assumption⟩ | exact stO upd_same | exact sqO upd_same), ?_⟩ | refine ⟨_, _, _, pf (by first | rfl | assumption | exact ⟨_, rfl⟩ | exact ⟨_, by assumption⟩ | exact stO upd_same | exact sqO upd_same), pf (by first | rfl | assumption | exact ⟨_, rfl⟩ | exact ⟨_, by assumption⟩ | exact stO upd_same | exact sqO upd_same), pf (by first | rfl | assumption | exact ⟨_, rfl⟩ | exact ⟨_, by assumption⟩ | exact stO upd_same | exact sqO upd_same), ?_⟩ | refine ⟨_, _, _, pf (by first | rfl | assumption | exact ⟨_, rfl⟩ | exact ⟨_, by assumption⟩ | exact stO upd_same | exact sqO upd_same), pf (by first | rfl | assumption | exact ⟨_, rfl⟩ | exact ⟨_, by assumption⟩ | exact stO upd_same | exact sqO upd_same), ?_⟩ | refine ⟨_, _, pf (by first | rfl | assumption | exact ⟨_, rfl⟩ | exact ⟨_, by assumption⟩ | exact stO upd_same | exact sqO upd_same), pf (by first | rfl | assumption | exact ⟨_, rfl⟩ | exact ⟨_, by assumption⟩ | exact stO upd_same | exact sqO upd_same), pf (by first | rfl | assumption | exact ⟨_, rfl⟩ | exact ⟨_, by assumption⟩ | exact stO upd_same | exact sqO upd_same), ?_⟩ | refine ⟨_, _, _, _, pf (by first | rfl | assumption | exact ⟨_, rfl⟩ | exact ⟨_, by assumption⟩ | exact stO upd_same | exact sqO upd_same), pf (by first | rfl | assumption | exact ⟨_, rfl⟩ | exact ⟨_, by assumption⟩ | exact stO upd_same | exact sqO upd_same), pf (by first | rfl | assumption | exact ⟨_, rfl⟩ | exact ⟨_, by assumption⟩ | exact stO upd_same | exact sqO upd_same), ?_⟩ | refine ⟨_, _, _, _, pf (by first | rfl | assumption | exact ⟨_, rfl⟩ | exact ⟨_, by assumption⟩ | exact stO upd_same | exact sqO upd_same), pf (by first | rfl | assumption | exact ⟨_, rfl⟩ | exact ⟨_, by assumption⟩ | exact stO upd_same | exact sqO upd_same), pf (by first | rfl | assumption | exact ⟨_, rfl⟩ | exact ⟨_, by assumption⟩ | exact stO upd_same | exact sqO upd_same), pf (by first | rfl | assumption | exact ⟨_, rfl⟩ | exact ⟨_, by assumption⟩ | exact stO upd_same | exact sqO upd_same), ?_⟩ | refine ⟨pf (by first | rfl | assumption | exact ⟨_, rfl⟩ | exact ⟨_, by assumption⟩ | exact stO upd_same | exact sqO upd_same), ?_⟩)
          refine fun Dl nD => lc_map walk_str nD (fun i => .bl (isFig ((digs l).getD i 0))) (by rw [tx_size]; omega) (fun _ _ => trivial) (fun _ _ _ _ _ y => by obtain ⟨rfl, _⟩ := y; exact Same.refl _) (fun x => rfl) (fun i x H1 H2 hi e y Q' q => ?_) (fun H1 e hD => ?_)
          · obtain ⟨rfl, d, hd, rfl⟩ := y_str y
            refine ⟨_, rfl, d, _, rfl, rfl, ?_⟩
            rw [mem_fig]
            have gi : (digs l).getD i 0 = d := getD_some hd
            rw [gi] at q
            exact q _ (Same.refl _)
          · have e2 : (List.range (tx (digs l)).cps.size).map (fun i => V.bl (isFig ((digs l).getD i 0))) = ((digs l).map isFig).map V.bl := by
              rw [tx_size, range_map (digs l) 0 fun c => V.bl (isFig c)]
              simp
            rw [e2] at hD
            refine ⟨Dl, _, rfl, sqO hD, _, rfl, ?_⟩
            have ea : (List.map isFig (digs l)).all id = (digs l).all isFig := by rw [List.all_map]; rfl
            rw [ea]
            have out' : ∀ r, numIn l = r → Q (numP r) H1 := fun r e' => by
              rw [← e']
              exact k H1 e
            refine ite2 (fun h3 => ?_) (fun h3 => ?_)
            · repeat (first | refine ⟨_, pf (by first | rfl | assumption | exact ⟨_, rfl⟩ | exact ⟨_, by assumption⟩ | exact stO upd_same | exact sqO upd_same), ?_⟩ | refine ⟨_, _, pf (by first | rfl | assumption | exact ⟨_, rfl⟩ | exact ⟨_, by assumption⟩ | exact stO upd_same | exact sqO upd_same), ?_⟩ | refine ⟨_, _, pf (by first | rfl | assumption | exact ⟨_, rfl⟩ | exact ⟨_, by assumption⟩ | exact stO upd_same | exact sqO upd_same), pf (by first | rfl | assumption | exact ⟨_, rfl⟩ | exact ⟨_, by assumption⟩ | exact stO upd_same | exact sqO upd_same), ?_⟩ | refine ⟨_, pf (by first | rfl | assumption | exact ⟨_, rfl⟩ | exact ⟨_, by assumption⟩ | exact stO upd_same | exact sqO upd_same), pf (by first | rfl | assumption | exact ⟨_, rfl⟩ | exact ⟨_, by assumption⟩ | exact stO upd_same | exact sqO upd_same), ?_⟩ | refine ⟨_, _, _, pf (by first | rfl | assumption | exact ⟨_, rfl⟩ | exact ⟨_, by assumption⟩ | exact stO upd_same | exact sqO upd_same), pf (by first | rfl | assumption | exact ⟨_, rfl⟩ | exact ⟨_, by assumption⟩ | exact stO upd_same | exact sqO upd_same), pf (by first | rfl | assumption | exact ⟨_, rfl⟩ | exact ⟨_, by assumption⟩ | exact stO upd_same | exact sqO upd_same), pf (by first | rfl | assumption | exact ⟨_, rfl⟩ | exact ⟨_, by assumption⟩ | exact stO upd_same | exact sqO upd_same), ?_⟩ | refine ⟨_, _, _, pf (by first | rfl | assumption | exact ⟨_, rfl⟩ | exact ⟨_, by assumption⟩ | exact stO upd_same | exact sqO upd_same), pf (by first | rfl | assumption | exact ⟨_, rfl⟩ | exact ⟨_, by assumption⟩ | exact stO upd_same | exact sqO upd_same), pf (by first | rfl | assumption | exact ⟨_, rfl⟩ | exact ⟨_, by assumption⟩ | exact stO upd_same | exact sqO upd_same), ?_⟩ | refine ⟨_, _, _, pf (by first | rfl | assumption | exact ⟨_, rfl⟩ | exact ⟨_, by assumption⟩ | exact stO upd_same | exact sqO upd_same), pf (by first | rfl | assumption | exact ⟨_, rfl⟩ | exact ⟨_, by assumption⟩ | exact stO upd_same | exact sqO upd_same), ?_⟩ | refine ⟨_, _, pf (by first | rfl | assumption | exact ⟨_, rfl⟩ | exact ⟨_, by assumption⟩ | exact stO upd_same | exact sqO upd_same), pf (by first | rfl | assumption | exact ⟨_, rfl⟩ | exact ⟨_, by assumption⟩ | exact stO upd_same | exact sqO upd_same), pf (by first | rfl | assumption | exact ⟨_, rfl⟩ | exact ⟨_, by assumption⟩ | exact stO upd_same | exact sqO upd_same), ?_⟩ | refine ⟨_, _, _, _, pf (by first | rfl | assumption | exact ⟨_, rfl⟩ | exact ⟨_, by assumption⟩ | exact stO upd_same | exact sqO upd_same), pf (by first | rfl | assumption | exact ⟨_, rfl⟩ | exact ⟨_, by assumption⟩ | exact stO upd_same | exact sqO upd_same), pf (by first | rfl | assumption | exact ⟨_, rfl⟩ | exact ⟨_, by assumption⟩ | exact stO upd_same | exact sqO upd_same), ?_⟩ | refine ⟨_, _, _, _, pf (by first | rfl | assumption | exact ⟨_, rfl⟩ | exact ⟨_, by assumption⟩ | exact stO upd_same | exact sqO upd_same), pf (by first | rfl | assumption | exact ⟨_, rfl⟩ | exact ⟨_, by assumption⟩ | exact stO upd_same | exact sqO upd_same), pf (by first | rfl | assumption | exact ⟨_, rfl⟩ | exact ⟨_, by assumption⟩ | exact stO upd_same | exact sqO upd_same), pf (by first | rfl | assumption | exact ⟨_, rfl⟩ | exact ⟨_, by assumption⟩ | exact stO upd_same | exact sqO upd_same), ?_⟩ | refine ⟨pf (by first | rfl | assumption | exact ⟨_, rfl⟩ | exact ⟨_, by assumption⟩ | exact stO upd_same | exact sqO upd_same), ?_⟩)
              refine out' none ?_
              unfold numIn
              refine if_pos ?_
              have : (digs l).all isFig = false := by simpa using h3
              rw [this]
              simp
            · have q3 : (digs l).all isFig = true := by simpa using h3
              have n1 : ¬ (decide (1 ≤ (digs l).length) && decide ((digs l).length ≤ 9) && (digs l).all isFig) = false := by
                rw [q3, decide_eq_true q1, decide_eq_true q2]
                decide
              obtain ⟨c, hc⟩ : ∃ c, (digs l)[0]? = some c := ⟨(digs l)[0], by simp [q1]⟩
              have ha : atI (tx (digs l)).cps.toList 0 = some c := by rw [tx_list]; exact atI_nat (j := 0) hc
              have gd : (digs l).getD 0 0 = c := getD_some hc
              have c0 : decide (V.str ⟨#[c]⟩ = V.str (Str.ofString "0")) = decide (c = 48) := (dec_tx [c] [48]).trans (by simp)
              have w0 : decide (V.str (tx l) = V.str (Str.ofString "0")) = decide (l = [48]) := dec_tx l [48]
              have iv : intText? (tx (digs l)) = some ((NumText.digitsVal (digs l) : Nat) : Int) := by
                have := intText_digits (x := tx (digs l)) (fun d hd => by
                  rw [tx_list] at hd
                  have := List.all_eq_true.mp q3 d hd
                  unfold isFig at this
                  simpa using this) (by rw [tx_list]; exact List.ne_nil_of_length_pos q1) (by rw [tx_len]; omega)
                rw [tx_list] at this
                exact this
              have i6 : (tx (digs l)).length ≤ 640 := by rw [tx_len]; omega
              have last : ¬ ((digs l).getD 0 0 = 48 ∧ l ≠ [48]) → (if l.take 1 = [45] then Q (.int (-((NumText.digitsVal (digs l) : Nat) : Int))) H1 else Q (.int ((NumText.digitsVal (digs l) : Nat) : Int)) H1) := fun h => by
                have e4 : numIn l = some (if l.take 1 = [45] then -((NumText.digitsVal (digs l) : Nat) : Int) else ((NumText.digitsVal (digs l) : Nat) : Int)) := by
                  unfold numIn
                  rw [if_neg n1, if_neg h]
                have := out' _ e4
                by_cases z : l.take 1 = [45]
                · rw [if_pos z] at this ⊢
                  exact this
                · rw [if_neg z] at this ⊢
                  exact this
              repeat (first | refine ⟨_, pf (by first | rfl | assumption | exact ⟨_, rfl⟩ | exact ⟨_, by assumption⟩ | exact stO upd_same | exact sqO upd_same), ?_⟩ | refine ⟨_, _, pf (by first | rfl | assumption | exact ⟨_, rfl⟩ | exact ⟨_, by assumption⟩ | exact stO upd_same | exact sqO upd_same), ?_⟩ | refine ⟨_, _, pf (by first | rfl | assumption | exact ⟨_, rfl⟩ | exact ⟨_, by assumption⟩ | exact stO upd_same | exact sqO upd_same), pf (by first | rfl | assumption | exact ⟨_, rfl⟩ | exact ⟨_, by assumption⟩ | exact stO upd_same | exact sqO upd_same), ?_⟩ | refine ⟨_, pf (by first | rfl | assumption | exact ⟨_, rfl⟩ | exact ⟨_, by assumption⟩ | exact stO upd_same | exact sqO upd_same), pf (by first | rfl | assumption | exact ⟨_, rfl⟩ | exact ⟨_, by assumption⟩ | exact stO upd_same | exact sqO upd_same), ?_⟩ | refine ⟨_, _, _, pf (by first | rfl | assumption | exact ⟨_, rfl⟩ | exact ⟨_, by assumption⟩ | exact stO upd_same | exact sqO upd_same), pf (by first | rfl | assumption | exact ⟨_, rfl⟩ | exact ⟨_, by assumption⟩ | exact stO upd_same | exact sqO upd_same), pf (by first | rfl | assumption | exact ⟨_, rfl⟩ | exact ⟨_, by assumption⟩ | exact stO upd_same | exact sqO upd_same), pf (by first | rfl | assumption | exact ⟨_, rfl⟩ | exact ⟨_, by assumption⟩ | exact stO upd_same | exact sqO upd_same), ?_⟩ | refine ⟨_, _, _, pf (by first | rfl | assumption | exact ⟨_, rfl⟩ | exact ⟨_, by assumption⟩ | exact stO upd_same | exact sqO upd_same), pf (by first | rfl | assumption | exact ⟨_, rfl⟩ | exact ⟨_, by assumption⟩ | exact stO upd_same | exact sqO upd_same), pf (by first | rfl | assumption | exact ⟨_, rfl⟩ | exact ⟨_, by assumption⟩ | exact stO upd_same | exact sqO upd_same), ?_⟩ | refine ⟨_, _, _, pf (by first | rfl | assumption | exact ⟨_, rfl⟩ | exact ⟨_, by assumption⟩ | exact stO upd_same | exact sqO upd_same), pf (by first | rfl | assumption | exact ⟨_, rfl⟩ | exact ⟨_, by assumption⟩ | exact stO upd_same | exact sqO upd_same), ?_⟩ | refine ⟨_, _, pf (by first | rfl | assumption | exact ⟨_, rfl⟩ | exact ⟨_, by assumption⟩ | exact stO upd_same | exact sqO upd_same), pf (by first | rfl | assumption | exact ⟨_, rfl⟩ | exact ⟨_, by assumption⟩ | exact stO upd_same | exact sqO upd_same), pf (by first | rfl | assumption | exact ⟨_, rfl⟩ | exact ⟨_, by assumption⟩ | exact stO upd_same | exact sqO upd_same), ?_⟩ | refine ⟨_, _, _, _, pf (by first | rfl | assumption | exact ⟨_, rfl⟩ | exact ⟨_, by assumption⟩ | exact stO upd_same | exact sqO upd_same), pf (by first | rfl | assumption | exact ⟨_, rfl⟩ | exact ⟨_, by assumption⟩ | exact stO upd_same | exact sqO upd_same), pf (by first | rfl | assumption | exact ⟨_, rfl⟩ | exact ⟨_, by assumption⟩ | exact stO upd_same | exact sqO upd_same), ?_⟩ | refine ⟨_, _, _, _, pf (by first | rfl | assumption | exact ⟨_, rfl⟩ | exact ⟨_, by assumption⟩ | exact stO upd_same | exact sqO upd_same), pf (by first | rfl | assumption | exact ⟨_, rfl⟩ | exact ⟨_, by assumption⟩ | exact stO upd_same | exact sqO upd_same), pf (by first | rfl | assumption | exact ⟨_, rfl⟩ | exact ⟨_, by assumption⟩ | exact stO upd_same | exact sqO upd_same), pf (by first | rfl | assumption | exact ⟨_, rfl⟩ | exact ⟨_, by assumption⟩ | exact stO upd_same | exact sqO upd_same), ?_⟩ | refine ⟨pf (by first | rfl | assumption | exact ⟨_, rfl⟩ | exact ⟨_, by assumption⟩ | exact stO upd_same | exact sqO upd_same), ?_⟩)
              refine ite2 (fun h4 => ?_) (fun h4 => ?_)
              · rw [c0] at h4
                repeat (first | refine ⟨_, pf (by first | rfl | assumption | exact ⟨_, rfl⟩ | exact ⟨_, by assumption⟩ | exact stO upd_same | exact sqO upd_same), ?_⟩ | refine ⟨_, _, pf (by first | rfl | assumption | exact ⟨_, rfl⟩ | exact ⟨_, by assumption⟩ | exact stO upd_same | exact sqO upd_same), ?_⟩ | refine ⟨_, _, pf (by first | rfl | assumption | exact ⟨_, rfl⟩ | exact ⟨_, by assumption⟩ | exact stO upd_same | exact sqO upd_same), pf (by first | rfl | assumption | exact ⟨_, rfl⟩ | exact ⟨_, by assumption⟩ | exact stO upd_same | exact sqO upd_same), ?_⟩ | refine ⟨_, pf (by first | rfl | assumption | exact ⟨_, rfl⟩ | exact ⟨_, by assumption⟩ | exact stO upd_same | exact sqO upd_same), pf (by first | rfl | assumption | exact ⟨_, rfl⟩ | exact ⟨_, by assumption⟩ | exact stO upd_same | exact sqO upd_same), ?_⟩ | refine ⟨_, _, _, pf (by first | rfl | assumption | exact ⟨_, rfl⟩ | exact ⟨_, by assumption⟩ | exact stO upd_same | exact sqO upd_same), pf (by first | rfl | assumption | exact ⟨_, rfl⟩ | exact ⟨_, by assumption⟩ | exact stO upd_same | exact sqO upd_same), pf (by first | rfl | assumption | exact ⟨_, rfl⟩ | exact ⟨_, by assumption⟩ | exact stO upd_same | exact sqO upd_same), pf (by first | rfl | assumption | exact ⟨_, rfl⟩ | exact ⟨_, by assumption⟩ | exact stO upd_same | exact sqO upd_same), ?_⟩ | refine ⟨_, _, _, pf (by first | rfl | assumption | exact ⟨_, rfl⟩ | exact ⟨_, by assumption⟩ | exact stO upd_same | exact sqO upd_same), pf (by first | rfl | assumption | exact ⟨_, rfl⟩ | exact ⟨_, by assumption⟩ | exact stO upd_same | exact sqO upd_same), pf (by first | rfl | assumption | exact ⟨_, rfl⟩ | exact ⟨_, by assumption⟩ | exact stO upd_same | exact sqO upd_same), ?_⟩ | refine ⟨_, _, _, pf (by first | rfl | assumption | exact ⟨_, rfl⟩ | exact ⟨_, by assumption⟩ | exact stO upd_same | exact sqO upd_same), pf (by first | rfl | assumption | exact ⟨_, rfl⟩ | exact ⟨_, by assumption⟩ | exact stO upd_same | exact sqO upd_same), ?_⟩ | refine ⟨_, _, pf (by first | rfl | assumption | exact ⟨_, rfl⟩ | exact ⟨_, by assumption⟩ | exact stO upd_same | exact sqO upd_same), pf (by first | rfl | assumption | exact ⟨_, rfl⟩ | exact ⟨_, by assumption⟩ | exact stO upd_same | exact sqO upd_same), pf (by first | rfl | assumption | exact ⟨_, rfl⟩ | exact ⟨_, by assumption⟩ | exact stO upd_same | exact sqO upd_same), ?_⟩ | refine ⟨_, _, _, _, pf (by first | rfl | assumption | exact ⟨_, rfl⟩ | exact ⟨_, by assumption⟩ | exact stO upd_same | exact sqO upd_same), pf (by first | rfl | assumption | exact ⟨_, rfl⟩ | exact ⟨_, by assumption⟩ | exact stO upd_same | exact sqO upd_same), pf (by first | rfl | assumption | exact ⟨_, rfl⟩ | exact ⟨_, by assumption⟩ | exact stO upd_same | exact sqO upd_same), ?_⟩ | refine ⟨_, _, _, _, pf (by first | rfl | assumption | exact ⟨_, rfl⟩ | exact ⟨_, by assumption⟩ | exact stO upd_same | exact sqO upd_same), pf (by first | rfl | assumption | exact ⟨_, rfl⟩ | exact ⟨_, by assumption⟩ | exact stO upd_same | exact sqO upd_same), pf (by first | rfl | assumption | exact ⟨_, rfl⟩ | exact ⟨_, by assumption⟩ | exact stO upd_same | exact sqO upd_same), pf (by first | rfl | assumption | exact ⟨_, rfl⟩ | exact ⟨_, by assumption⟩ | exact stO upd_same | exact sqO upd_same), ?_⟩ | refine ⟨pf (by first | rfl | assumption | exact ⟨_, rfl⟩ | exact ⟨_, by assumption⟩ | exact stO upd_same | exact sqO upd_same), ?_⟩)
                refine ite2 (fun h5 => ?_) (fun h5 => ?_)
                · rw [w0] at h5
                  repeat (first | refine ⟨_, pf (by first | rfl | assumption | exact ⟨_, rfl⟩ | exact ⟨_, by assumption⟩ | exact stO upd_same | exact sqO upd_same), ?_⟩ | refine ⟨_, _, pf (by first | rfl | assumption | exact ⟨_, rfl⟩ | exact ⟨_, by assumption⟩ | exact stO upd_same | exact sqO upd_same), ?_⟩ | refine ⟨_, _, pf (by first | rfl | assumption | exact ⟨_, rfl⟩ | exact ⟨_, by assumption⟩ | exact stO upd_same | exact sqO upd_same), pf (by first | rfl | assumption | exact ⟨_, rfl⟩ | exact ⟨_, by assumption⟩ | exact stO upd_same | exact sqO upd_same), ?_⟩ | refine ⟨_, pf (by first | rfl | assumption | exact ⟨_, rfl⟩ | exact ⟨_, by assumption⟩ | exact stO upd_same | exact sqO upd_same), pf (by first | rfl | assumption | exact ⟨_, rfl⟩ | exact ⟨_, by assumption⟩ | exact stO upd_same | exact sqO upd_same), ?_⟩ | refine ⟨_, _, _, pf (by first | rfl | assumption | exact ⟨_, rfl⟩ | exact ⟨_, by assumption⟩ | exact stO upd_same | exact sqO upd_same), pf (by first | rfl | assumption | exact ⟨_, rfl⟩ | exact ⟨_, by assumption⟩ | exact stO upd_same | exact sqO upd_same), pf (by first | rfl | assumption | exact ⟨_, rfl⟩ | exact ⟨_, by assumption⟩ | exact stO upd_same | exact sqO upd_same), pf (by first | rfl | assumption | exact ⟨_, rfl⟩ | exact ⟨_, by assumption⟩ | exact stO upd_same | exact sqO upd_same), ?_⟩ | refine ⟨_, _, _, pf (by first | rfl | assumption | exact ⟨_, rfl⟩ | exact ⟨_, by assumption⟩ | exact stO upd_same | exact sqO upd_same), pf (by first | rfl | assumption | exact ⟨_, rfl⟩ | exact ⟨_, by assumption⟩ | exact stO upd_same | exact sqO upd_same), pf (by first | rfl | assumption | exact ⟨_, rfl⟩ | exact ⟨_, by assumption⟩ | exact stO upd_same | exact sqO upd_same), ?_⟩ | refine ⟨_, _, _, pf (by first | rfl | assumption | exact ⟨_, rfl⟩ | exact ⟨_, by assumption⟩ | exact stO upd_same | exact sqO upd_same), pf (by first | rfl | assumption | exact ⟨_, rfl⟩ | exact ⟨_, by assumption⟩ | exact stO upd_same | exact sqO upd_same), ?_⟩ | refine ⟨_, _, pf (by first | rfl | assumption | exact ⟨_, rfl⟩ | exact ⟨_, by assumption⟩ | exact stO upd_same | exact sqO upd_same), pf (by first | rfl | assumption | exact ⟨_, rfl⟩ | exact ⟨_, by assumption⟩ | exact stO upd_same | exact sqO upd_same), pf (by first | rfl | assumption | exact ⟨_, rfl⟩ | exact ⟨_, by assumption⟩ | exact stO upd_same | exact sqO upd_same), ?_⟩ | refine ⟨_, _, _, _, pf (by first | rfl | assumption | exact ⟨_, rfl⟩ | exact ⟨_, by assumption⟩ | exact stO upd_same | exact sqO upd_same), pf (by first | rfl | assumption | exact ⟨_, rfl⟩ | exact ⟨_, by assumption⟩ | exact stO upd_same | exact sqO upd_same), pf (by first | rfl | assumption | exact ⟨_, rfl⟩ | exact ⟨_, by assumption⟩ | exact stO upd_same | exact sqO upd_same), ?_⟩ | refine ⟨_, _, _, _, pf (by first | rfl | assumption | exact ⟨_, rfl⟩ | exact ⟨_, by assumption⟩ | exact stO upd_same | exact sqO upd_same), pf (by first | rfl | assumption | exact ⟨_, rfl⟩ | exact ⟨_, by assumption⟩ | exact stO upd_same | exact sqO upd_same), pf (by first | rfl | assumption | exact ⟨_, rfl⟩ | exact ⟨_, by assumption⟩ | exact stO upd_same | exact sqO upd_same), pf (by first | rfl | assumption | exact ⟨_, rfl⟩ | exact ⟨_, by assumption⟩ | exact stO upd_same | exact sqO upd_same), ?_⟩ | refine ⟨pf (by first | rfl | assumption | exact ⟨_, rfl⟩ | exact ⟨_, by assumption⟩ | exact stO upd_same | exact sqO upd_same), ?_⟩)
                  refine out' none ?_
                  unfold numIn
                  rw [if_neg n1]
                  exact if_pos ⟨by rw [gd]; exact of_decide_eq_true h4, by simpa using h5⟩
                · rw [w0] at h5
                  have lz := last (fun z => h5 (by simpa using z.2))
                  repeat (first | refine ⟨_, pf (by first | rfl | assumption | exact ⟨_, rfl⟩ | exact ⟨_, by assumption⟩ | exact stO upd_same | exact sqO upd_same), ?_⟩ | refine ⟨_, _, pf (by first | rfl | assumption | exact ⟨_, rfl⟩ | exact ⟨_, by assumption⟩ | exact stO upd_same | exact sqO upd_same), ?_⟩ | refine ⟨_, _, pf (by first | rfl | assumption | exact ⟨_, rfl⟩ | exact ⟨_, by assumption⟩ | exact stO upd_same | exact sqO upd_same), pf (by first | rfl | assumption | exact ⟨_, rfl⟩ | exact ⟨_, by assumption⟩ | exact stO upd_same | exact sqO upd_same), ?_⟩ | refine ⟨_, pf (by first | rfl | assumption | exact ⟨_, rfl⟩ | exact ⟨_, by assumption⟩ | exact stO upd_same | exact sqO upd_same), pf (by first | rfl | assumption | exact ⟨_, rfl⟩ | exact ⟨_, by assumption⟩ | exact stO upd_same | exact sqO upd_same), ?_⟩ | refine ⟨_, _, _, pf (by first | rfl | assumption | exact ⟨_, rfl⟩ | exact ⟨_, by assumption⟩ | exact stO upd_same | exact sqO upd_same), pf (by first | rfl | assumption | exact ⟨_, rfl⟩ | exact ⟨_, by assumption⟩ | exact stO upd_same | exact sqO upd_same), pf (by first | rfl | assumption | exact ⟨_, rfl⟩ | exact ⟨_, by assumption⟩ | exact stO upd_same | exact sqO upd_same), pf (by first | rfl | assumption | exact ⟨_, rfl⟩ | exact ⟨_, by assumption⟩ | exact stO upd_same | exact sqO upd_same), ?_⟩ | refine ⟨_, _, _, pf (by first | rfl | assumption | exact ⟨_, rfl⟩ | exact ⟨_, by assumption⟩ | exact stO upd_same | exact sqO upd_same), pf (by first | rfl | assumption | exact ⟨_, rfl⟩ | exact ⟨_, by assumption⟩ | exact stO upd_same | exact sqO upd_same), pf (by first | rfl | assumption | exact ⟨_, rfl⟩ | exact ⟨_, by assumption⟩ | exact stO upd_same | exact sqO upd_same), ?_⟩ | refine ⟨_, _, _, pf (by first | rfl | assumption | exact ⟨_, rfl⟩ | exact ⟨_, by assumption⟩ | exact stO upd_same | exact sqO upd_same), pf (by first | rfl | assumption | exact ⟨_, rfl⟩ | exact ⟨_, by assumption⟩ | exact stO upd_same | exact sqO upd_same), ?_⟩ | refine ⟨_, _, pf (by first | rfl | assumption | exact ⟨_, rfl⟩ | exact ⟨_, by assumption⟩ | exact stO upd_same | exact sqO upd_same), pf (by first | rfl | assumption | exact ⟨_, rfl⟩ | exact ⟨_, by assumption⟩ | exact stO upd_same | exact sqO upd_same), pf (by first | rfl | assumption | exact ⟨_, rfl⟩ | exact ⟨_, by assumption⟩ | exact stO upd_same | exact sqO upd_same), ?_⟩ | refine ⟨_, _, _, _, pf (by first | rfl | assumption | exact ⟨_, rfl⟩ | exact ⟨_, by assumption⟩ | exact stO upd_same | exact sqO upd_same), pf (by first | rfl | assumption | exact ⟨_, rfl⟩ | exact ⟨_, by assumption⟩ | exact stO upd_same | exact sqO upd_same), pf (by first | rfl | assumption | exact ⟨_, rfl⟩ | exact ⟨_, by assumption⟩ | exact stO upd_same | exact sqO upd_same), ?_⟩ | refine ⟨_, _, _, _, pf (by first | rfl | assumption | exact ⟨_, rfl⟩ | exact ⟨_, by assumption⟩ | exact stO upd_same | exact sqO upd_same), pf (by first | rfl | assumption | exact ⟨_, rfl⟩ | exact ⟨_, by assumption⟩ | exact stO upd_same | exact sqO upd_same), pf (by first | rfl | assumption | exact ⟨_, rfl⟩ | exact ⟨_, by assumption⟩ | exact stO upd_same | exact sqO upd_same), pf (by first | rfl | assumption | exact ⟨_, rfl⟩ | exact ⟨_, by assumption⟩ | exact stO upd_same | exact sqO upd_same), ?_⟩ | refine ⟨pf (by first | rfl | assumption | exact ⟨_, rfl⟩ | exact ⟨_, by assumption⟩ | exact stO upd_same | exact sqO upd_same), ?_⟩)
                  refine ite2 (fun h6 => ?_) (fun h6 => ?_)
                  · rw [cm] at h6
                    rw [if_pos (of_decide_eq_true h6)] at lz
                    repeat (first | refine ⟨_, pf (by first | rfl | assumption | exact ⟨_, rfl⟩ | exact ⟨_, by assumption⟩ | exact stO upd_same | exact sqO upd_same), ?_⟩ | refine ⟨_, _, pf (by first | rfl | assumption | exact ⟨_, rfl⟩ | exact ⟨_, by assumption⟩ | exact stO upd_same | exact sqO upd_same), ?_⟩ | refine ⟨_, _, pf (by first | rfl | assumption | exact ⟨_, rfl⟩ | exact ⟨_, by assumption⟩ | exact stO upd_same | exact sqO upd_same), pf (by first | rfl | assumption | exact ⟨_, rfl⟩ | exact ⟨_, by assumption⟩ | exact stO upd_same | exact sqO upd_same), ?_⟩ | refine ⟨_, pf (by first | rfl | assumption | exact ⟨_, rfl⟩ | exact ⟨_, by assumption⟩ | exact stO upd_same | exact sqO upd_same), pf (by first | rfl | assumption | exact ⟨_, rfl⟩ | exact ⟨_, by assumption⟩ | exact stO upd_same | exact sqO upd_same), ?_⟩ | refine ⟨_, _, _, pf (by first | rfl | assumption | exact ⟨_, rfl⟩ | exact ⟨_, by assumption⟩ | exact stO upd_same | exact sqO upd_same), pf (by first | rfl | assumption | exact ⟨_, rfl⟩ | exact ⟨_, by assumption⟩ | exact stO upd_same | exact sqO upd_same), pf (by first | rfl | assumption | exact ⟨_, rfl⟩ | exact ⟨_, by assumption⟩ | exact stO upd_same | exact sqO upd_same), pf (by first | rfl | assumption | exact ⟨_, rfl⟩ | exact ⟨_, by assumption⟩ | exact stO upd_same | exact sqO upd_same), ?_⟩ | refine ⟨_, _, _, pf (by first | rfl | assumption | exact ⟨_, rfl⟩ | exact ⟨_, by assumption⟩ | exact stO upd_same | exact sqO upd_same), pf (by first | rfl | assumption | exact ⟨_, rfl⟩ | exact ⟨_, by assumption⟩ | exact stO upd_same | exact sqO upd_same), pf (by first | rfl | assumption | exact ⟨_, rfl⟩ | exact ⟨_, by assumption⟩ | exact stO upd_same | exact sqO upd_same), ?_⟩ | refine ⟨_, _, _, pf (by first | rfl | assumption | exact ⟨_, rfl⟩ | exact ⟨_, by assumption⟩ | exact stO upd_same | exact sqO upd_same), pf (by first | rfl | assumption | exact ⟨_, rfl⟩ | exact ⟨_, by assumption⟩ | exact stO upd_same | exact sqO upd_same), ?_⟩ | refine ⟨_, _, pf (by first | rfl | assumption | exact ⟨_, rfl⟩ | exact ⟨_, by assumption⟩ | exact stO upd_same | exact sqO upd_same), pf (by first | rfl | assumption | exact ⟨_, rfl⟩ | exact ⟨_, by assumption⟩ | exact stO upd_same | exact sqO upd_same), pf (by first | rfl | assumption | exact ⟨_, rfl⟩ | exact ⟨_, by assumption⟩ | exact stO upd_same | exact sqO upd_same), ?_⟩ | refine ⟨_, _, _, _, pf (by first | rfl | assumption | exact ⟨_, rfl⟩ | exact ⟨_, by assumption⟩ | exact stO upd_same | exact sqO upd_same), pf (by first | rfl | assumption | exact ⟨_, rfl⟩ | exact ⟨_, by assumption⟩ | exact stO upd_same | exact sqO upd_same), pf (by first | rfl | assumption | exact ⟨_, rfl⟩ | exact ⟨_, by assumption⟩ | exact stO upd_same | exact sqO upd_same), ?_⟩ | refine ⟨_, _, _, _, pf (by first | rfl | assumption | exact ⟨_, rfl⟩ | exact ⟨_, by assumption⟩ | exact stO upd_same | exact sqO upd_same), pf (by first | rfl | assumption | exact ⟨_, rfl⟩ | exact ⟨_, by assumption⟩ | exact stO upd_same | exact sqO upd_same), pf (by first | rfl | assumption | exact ⟨_, rfl⟩ | exact ⟨_, by assumption⟩ | exact stO upd_same | exact sqO upd_same), pf (by first | rfl | assumption | exact ⟨_, rfl⟩ | exact ⟨_, by assumption⟩ | exact stO upd_same | exact sqO upd_same), ?_⟩ | refine ⟨pf (by first | rfl | assumption | exact ⟨_, rfl⟩ | exact ⟨_, by assumption⟩ | exact stO upd_same | exact sqO upd_same), ?_⟩)
                    exact lz
                  · rw [cm] at h6
                    rw [if_neg (fun z => h6 (decide_eq_true z))] at lz
                    repeat (first | refine ⟨_, pf (by first | rfl | assumption | exact ⟨_, rfl⟩ | exact ⟨_, by assumption⟩ | exact stO upd_same | exact sqO upd_same), ?_⟩ | refine ⟨_, _, pf (by first | rfl | assumption | exact ⟨_, rfl⟩ | exact ⟨_, by assumption⟩ | exact stO upd_same | exact sqO upd_same), ?_⟩ | refine ⟨_, _, pf (by first | rfl | assumption | exact ⟨_, rfl⟩ | exact ⟨_, by assumption⟩ | exact stO upd_same | exact sqO upd_same), pf (by first | rfl | assumption | exact ⟨_, rfl⟩ | exact ⟨_, by assumption⟩ | exact stO upd_same | exact sqO upd_same), ?_⟩ | refine ⟨_, pf (by first | rfl | assumption | exact ⟨_, rfl⟩ | exact ⟨_, by assumption⟩ | exact stO upd_same | exact sqO upd_same), pf (by first | rfl | assumption | exact ⟨_, rfl⟩ | exact ⟨_, by assumption⟩ | exact stO upd_same | exact sqO upd_same), ?_⟩ | refine ⟨_, _, _, pf (by first | rfl | assumption | exact ⟨_, rfl⟩ | exact ⟨_, by assumption⟩ | exact stO upd_same | exact sqO upd_same), pf (by first | rfl | assumption | exact ⟨_, rfl⟩ | exact ⟨_, by assumption⟩ | exact stO upd_same | exact sqO upd_same), pf (by first | rfl | assumption | exact ⟨_, rfl⟩ | exact ⟨_, by assumption⟩ | exact stO upd_same | exact sqO upd_same), pf (by first | rfl | assumption | exact ⟨_, rfl⟩ | exact ⟨_, by assumption⟩ | exact stO upd_same | exact sqO upd_same), ?_⟩ | refine ⟨_, _, _, pf (by first | rfl | assumption | exact ⟨_, rfl⟩ | exact ⟨_, by assumption⟩ | exact stO upd_same | exact sqO upd_same), pf (by first | rfl | assumption | exact ⟨_, rfl⟩ | exact ⟨_, by assumption⟩ | exact stO upd_same | exact sqO upd_same), pf (by first | rfl | assumption | exact ⟨_, rfl⟩ | exact ⟨_, by assumption⟩ | exact stO upd_same | exact sqO upd_same), ?_⟩ | refine ⟨_, _, _, pf (by first | rfl | assumption | exact ⟨_, rfl⟩ | exact ⟨_, by assumption⟩ | exact stO upd_same | exact sqO upd_same), pf (by first | rfl | assumption | exact ⟨_, rfl⟩ | exact ⟨_, by assumption⟩ | exact stO upd_same | exact sqO upd_same), ?_⟩ | refine ⟨_, _, pf (by first | rfl | assumption | exact ⟨_, rfl⟩ | exact ⟨_, by assumption⟩ | exact stO upd_same | exact sqO upd_same), pf (by first | rfl | assumption | exact ⟨_, rfl⟩ | exact ⟨_, by assumption⟩ | exact stO upd_same | exact sqO upd_same), pf (by first | rfl | assumption | exact ⟨_, rfl⟩ | exact ⟨_, by assumption⟩ | exact stO upd_same | exact sqO upd_same), ?_⟩ | refine ⟨_, _, _, _, pf (by first | rfl | assumption | exact ⟨_, rfl⟩ | exact ⟨_, by assumption⟩ | exact stO upd_same | exact sqO upd_same), pf (by first | rfl | assumption | exact ⟨_, rfl⟩ | exact ⟨_, by assumption⟩ | exact stO upd_same | exact sqO upd_same), pf (by first | rfl | assumption | exact ⟨_, rfl⟩ | exact ⟨_, by assumption⟩ | exact stO upd_same | exact sqO upd_same), ?_⟩ | refine ⟨_, _, _, _, pf (by first | rfl | assumption | exact ⟨_, rfl⟩ | exact ⟨_, by assumption⟩ | exact stO upd_same | exact sqO upd_same), pf (by first | rfl | assumption | exact ⟨_, rfl⟩ | exact ⟨_, by assumption⟩ | exact stO upd_same | exact sqO upd_same), pf (by first | rfl | assumption | exact ⟨_, rfl⟩ | exact ⟨_, by assumption⟩ | exact stO upd_same | exact sqO upd_same), pf (by first | rfl | assumption | exact ⟨_, rfl⟩ | exact ⟨_, by assumption⟩ | exact stO upd_same | exact sqO upd_same), ?_⟩ | refine ⟨pf (by first | rfl | assumption | exact ⟨_, rfl⟩ | exact ⟨_, by assumption⟩ | exact stO upd_same | exact sqO upd_same), ?_⟩)
                    exact lz
              · rw [c0] at h4
                have lz := last (fun z => h4 (by rw [gd] at z; exact decide_eq_true z.1))
                repeat (first | refine ⟨_, pf (by first | rfl | assumption | exact ⟨_, rfl⟩ | exact ⟨_, by assumption⟩ | exact stO upd_same | exact sqO upd_same), ?_⟩ | refine ⟨_, _, pf (by first | rfl | assumption | exact ⟨_, rfl⟩ | exact ⟨_, by assumption⟩ | exact stO upd_same | exact sqO upd_same), ?_⟩ | refine ⟨_, _, pf (by first | rfl | assumption | exact ⟨_, rfl⟩ | exact ⟨_, by assumption⟩ | exact stO upd_same | exact sqO upd_same), pf (by first | rfl | assumption | exact ⟨_, rfl⟩ | exact ⟨_, by assumption⟩ | exact stO upd_same | exact sqO upd_same), ?_⟩ | refine ⟨_, pf (by first | rfl | assumption | exact ⟨_, rfl⟩ | exact ⟨_, by assumption⟩ | exact stO upd_same | exact sqO upd_same), pf (by first | rfl | assumption | exact ⟨_, rfl⟩ | exact ⟨_, by assumption⟩ | exact stO upd_same | exact sqO upd_same), ?_⟩ | refine ⟨_, _, _, pf (by first | rfl | assumption | exact ⟨_, rfl⟩ | exact ⟨_, by assumption⟩ | exact stO upd_same | exact sqO upd_same), pf (by first | rfl | assumption | exact ⟨_, rfl⟩ | exact ⟨_, by assumption⟩ | exact stO upd_same | exact sqO upd_same), pf (by first | rfl | assumption | exact ⟨_, rfl⟩ | exact ⟨_, by assumption⟩ | exact stO upd_same | exact sqO upd_same), pf (by first | rfl | assumption | exact ⟨_, rfl⟩ | exact ⟨_, by assumption⟩ | exact stO upd_same | exact sqO upd_same), ?_⟩ | refine ⟨_, _, _, pf (by first | rfl | assumption | exact ⟨_, rfl⟩ | exact ⟨_, by assumption⟩ | exact stO upd_same | exact sqO upd_same), pf (by first | rfl | assumption | exact ⟨_, rfl⟩ | exact ⟨_, by assumption⟩ | exact stO upd_same | exact sqO upd_same), pf (by first | rfl | assumption | exact ⟨_, rfl⟩ | exact ⟨_, by assumption⟩ | exact stO upd_same | exact sqO upd_same), ?_⟩ | refine ⟨_, _, _, pf (by first | rfl | assumption | exact ⟨_, rfl⟩ | exact ⟨_, by assumption⟩ | exact stO upd_same | exact sqO upd_same), pf (by first | rfl | assumption | exact ⟨_, rfl⟩ | exact ⟨_, by assumption⟩ | exact stO upd_same | exact sqO upd_same), ?_⟩ | refine ⟨_, _, pf (by first | rfl | assumption | exact ⟨_, rfl⟩ | exact ⟨_, by assumption⟩ | exact stO upd_same | exact sqO upd_same), pf (by first | rfl | assumption | exact ⟨_, rfl⟩ | exact ⟨_, by assumption⟩ | exact stO upd_same | exact sqO upd_same), pf (by first | rfl | assumption | exact ⟨_, rfl⟩ | exact ⟨_, by assumption⟩ | exact stO upd_same | exact sqO upd_same), ?_⟩ | refine ⟨_, _, _, _, pf (by first | rfl | assumption | exact ⟨_, rfl⟩ | exact ⟨_, by assumption⟩ | exact stO upd_same | exact sqO upd_same), pf (by first | rfl | assumption | exact ⟨_, rfl⟩ | exact ⟨_, by assumption⟩ | exact stO upd_same | exact sqO upd_same), pf (by first | rfl | assumption | exact ⟨_, rfl⟩ | exact ⟨_, by assumption⟩ | exact stO upd_same | exact sqO upd_same), ?_⟩ | refine ⟨_, _, _, _, pf (by first | rfl | assumption | exact ⟨_, rfl⟩ | exact ⟨_, by assumption⟩ | exact stO upd_same | exact sqO upd_same), pf (by first | rfl | assumption | exact ⟨_, rfl⟩ | exact ⟨_, by assumption⟩ | exact stO upd_same | exact sqO upd_same), pf (by first | rfl | assumption | exact ⟨_, rfl⟩ | exact ⟨_, by assumption⟩ | exact stO upd_same | exact sqO upd_same), pf (by first | rfl | assumption | exact ⟨_, rfl⟩ | exact ⟨_, by assumption⟩ | exact stO upd_same | exact sqO upd_same), ?_⟩ | refine ⟨pf (by first | rfl | assumption | exact ⟨_, rfl⟩ | exact ⟨_, by assumption⟩ | exact stO upd_same | exact sqO upd_same), ?_⟩)
                refine ite2 (fun h6 => ?_) (fun h6 => ?_)
                · rw [cm] at h6
                  rw [if_pos (of_decide_eq_true h6)] at lz
                  repeat (first | refine ⟨_, pf (by first | rfl | assumption | exact ⟨_, rfl⟩ | exact ⟨_, by assumption⟩ | exact stO upd_same | exact sqO upd_same), ?_⟩ | refine ⟨_, _, pf (by first | rfl | assumption | exact ⟨_, rfl⟩ | exact ⟨_, by assumption⟩ | exact stO upd_same | exact sqO upd_same), ?_⟩ | refine ⟨_, _, pf (by first | rfl | assumption | exact ⟨_, rfl⟩ | exact ⟨_, by assumption⟩ | exact stO upd_same | exact sqO upd_same), pf (by first | rfl | assumption | exact ⟨_, rfl⟩ | exact ⟨_, by assumption⟩ | exact stO upd_same | exact sqO upd_same), ?_⟩ | refine ⟨_, pf (by first | rfl | assumption | exact ⟨_, rfl⟩ | exact ⟨_, by assumption⟩ | exact stO upd_same | exact sqO upd_same), pf (by first | rfl | assumption | exact ⟨_, rfl⟩ | exact ⟨_, by assumption⟩ | exact stO upd_same | exact sqO upd_same), ?_⟩ | refine ⟨_, _, _, pf (by first | rfl | assumption | exact ⟨_, rfl⟩ | exact ⟨_, by assumption⟩ | exact stO upd_same | exact sqO upd_same), pf (by first | rfl | assumption | exact ⟨_, rfl⟩ | exact ⟨_, by assumption⟩ | exact stO upd_same | exact sqO upd_same), pf (by first | rfl | assumption | exact ⟨_, rfl⟩ | exact ⟨_, by assumption⟩ | exact stO upd_same | exact sqO upd_same), pf (by first | rfl | assumption | exact ⟨_, rfl⟩ | exact ⟨_, by assumption⟩ | exact stO upd_same | exact sqO upd_same), ?_⟩ | refine ⟨_, _, _, pf (by first | rfl | assumption | exact ⟨_, rfl⟩ | exact ⟨_, by assumption⟩ | exact stO upd_same | exact sqO upd_same), pf (by first | rfl | assumption | exact ⟨_, rfl⟩ | exact ⟨_, by assumption⟩ | exact stO upd_same | exact sqO upd_same), pf (by first | rfl | assumption | exact ⟨_, rfl⟩ | exact ⟨_, by assumption⟩ | exact stO upd_same | exact sqO upd_same), ?_⟩ | refine ⟨_, _, _, pf (by first | rfl | assumption | exact ⟨_, rfl⟩ | exact ⟨_, by assumption⟩ | exact stO upd_same | exact sqO upd_same), pf (by first | rfl | assumption | exact ⟨_, rfl⟩ | exact ⟨_, by assumption⟩ | exact stO upd_same | exact sqO upd_same), ?_⟩ | refine ⟨_, _, pf (by first | rfl | assumption | exact ⟨_, rfl⟩ | exact ⟨_, by assumption⟩ | exact stO upd_same | exact sqO upd_same), pf (by first | rfl | assumption | exact ⟨_, rfl⟩ | exact ⟨_, by assumption⟩ | exact stO upd_same | exact sqO upd_same), pf (by first | rfl | assumption | exact ⟨_, rfl⟩ | exact ⟨_, by assumption⟩ | exact stO upd_same | exact sqO upd_same), ?_⟩ | refine ⟨_, _, _, _, pf (by first | rfl | assumption | exact ⟨_, rfl⟩ | exact ⟨_, by assumption⟩ | exact stO upd_same | exact sqO upd_same), pf (by first | rfl | assumption | exact ⟨_, rfl⟩ | exact ⟨_, by assumption⟩ | exact stO upd_same | exact sqO upd_same), pf (by first | rfl | assumption | exact ⟨_, rfl⟩ | exact ⟨_, by assumption⟩ | exact stO upd_same | exact sqO upd_same), ?_⟩ | refine ⟨_, _, _, _, pf (by first | rfl | assumption | exact ⟨_, rfl⟩ | exact ⟨_, by assumption⟩ | exact stO upd_same | exact sqO upd_same), pf (by first | rfl | assumption | exact ⟨_, rfl⟩ | exact ⟨_, by assumption⟩ | exact stO upd_same | exact sqO upd_same), pf (by first | rfl | assumption | exact ⟨_, rfl⟩ | exact ⟨_, by assumption⟩ | exact stO upd_same | exact sqO upd_same), pf (by first | rfl | assumption | exact ⟨_, rfl⟩ | exact ⟨_, by assumption⟩ | exact stO upd_same | exact sqO upd_same), ?_⟩ | refine ⟨pf (by first | rfl | assumption | exact ⟨_, rfl⟩ | exact ⟨_, by assumption⟩ | exact stO upd_same | exact sqO upd_same), ?_⟩)
                  exact lz
                · rw [cm] at h6
                  rw [if_neg (fun z => h6 (decide_eq_true z))] at lz
                  repeat (first | refine ⟨_, pf (by first | rfl | assumption | exact ⟨_, rfl⟩ | exact ⟨_, by assumption⟩ | exact stO upd_same | exact sqO upd_same), ?_⟩ | refine ⟨_, _, pf (by first | rfl | assumption | exact ⟨_, rfl⟩ | exact ⟨_, by assumption⟩ | exact stO upd_same | exact sqO upd_same), ?_⟩ | refine ⟨_, _, pf (by first | rfl | assumption | exact ⟨_, rfl⟩ | exact ⟨_, by assumption⟩ | exact stO upd_same | exact sqO upd_same), pf (by first | rfl | assumption | exact ⟨_, rfl⟩ | exact ⟨_, by assumption⟩ | exact stO upd_same | exact sqO upd_same), ?_⟩ | refine ⟨_, pf (by first | rfl | assumption | exact ⟨_, rfl⟩ | exact ⟨_, by assumption⟩ | exact stO upd_same | exact sqO upd_same), pf (by first | rfl | assumption | exact ⟨_, rfl⟩ | exact ⟨_, by assumption⟩ | exact stO upd_same | exact sqO upd_same), ?_⟩ | refine ⟨_, _, _, pf (by first | rfl | assumption | exact ⟨_, rfl⟩ | exact ⟨_, by assumption⟩ | exact stO upd_same | exact sqO upd_same), pf (by first | rfl | assumption | exact ⟨_, rfl⟩ | exact ⟨_, by assumption⟩ | exact stO upd_same | exact sqO upd_same), pf (by first | rfl | assumption | exact ⟨_, rfl⟩ | exact ⟨_, by assumption⟩ | exact stO upd_same | exact sqO upd_same), pf (by first | rfl | assumption | exact ⟨_, rfl⟩ | exact ⟨_, by assumption⟩ | exact stO upd_same | exact sqO upd_same), ?_⟩ | refine ⟨_, _, _, pf (by first | rfl | assumption | exact ⟨_, rfl⟩ | exact ⟨_, by assumption⟩ | exact stO upd_same | exact sqO upd_same), pf (by first | rfl | assumption | exact ⟨_, rfl⟩ | exact ⟨_, by assumption⟩ | exact stO upd_same | exact sqO upd_same), pf (by first | rfl | assumption | exact ⟨_, rfl⟩ | exact ⟨_, by assumption⟩ | exact stO upd_same | exact sqO upd_same), ?_⟩ | refine ⟨_, _, _, pf (by first | rfl | assumption | exact ⟨_, rfl⟩ | exact ⟨_, by assumption⟩ | exact stO upd_same | exact sqO upd_same), pf (by first | rfl | assumption | exact ⟨_, rfl⟩ | exact ⟨_, by assumption⟩ | exact stO upd_same | exact sqO upd_same), ?_⟩ | refine ⟨_, _, pf (by first | rfl | assumption | exact ⟨_, rfl⟩ | exact ⟨_, by assumption⟩ | exact stO upd_same | exact sqO upd_same), pf (by first | rfl | assumption | exact ⟨_, rfl⟩ | exact ⟨_, by assumption⟩ | exact stO upd_same | exact sqO upd_same), pf (by first | rfl | assumption | exact ⟨_, rfl⟩ | exact ⟨_, by assumption⟩ | exact stO upd_same | exact sqO upd_same), ?_⟩ | refine ⟨_, _, _, _, pf (by first | rfl | assumption | exact ⟨_, rfl⟩ | exact ⟨_, by assumption⟩ | exact stO upd_same | exact sqO upd_same), pf (by first | rfl | assumption | exact ⟨_, rfl⟩ | exact ⟨_, by assumption⟩ | exact stO upd_same | exact sqO upd_same), pf (by first | rfl | assumption | exact ⟨_, rfl⟩ | exact ⟨_, by assumption⟩ | exact stO upd_same | exact sqO upd_same), ?_⟩ | refine ⟨_, _, _, _, pf (by first | rfl | assumption | exact ⟨_, rfl⟩ | exact ⟨_, by assumption⟩ | exact stO upd_same | exact sqO upd_same), pf (by first | rfl | assumption | exact ⟨_, rfl⟩ | exact ⟨_, by assumption⟩ | exact stO upd_same | exact sqO upd_same), pf (by first | rfl | assumption | exact ⟨_, rfl⟩ | exact ⟨_, by assumption⟩ | exact stO upd_same | exact sqO upd_same), pf (by first | rfl | assumption | exact ⟨_, rfl⟩ | exact ⟨_, by assumption⟩ | exact stO upd_same | exact sqO upd_same), ?_⟩ | refine ⟨pf (by first | rfl | assumption | exact ⟨_, rfl⟩ | exact ⟨_, by assumption⟩ | exact stO upd_same | exact sqO upd_same), ?_⟩)
                  exact lz
      · repeat (first | refine ⟨_, pf (by first | rfl | assumption | exact ⟨_, rfl⟩ | exact ⟨_, by assumption⟩ | exact stO upd_same | exact sqO upd_same), ?_⟩ | refine ⟨_, _, pf (by first | rfl | assumption | exact ⟨_, rfl⟩ | exact ⟨_, by assumption⟩ | exact stO upd_same | exact sqO upd_same), ?_⟩ | refine ⟨_, _, pf (by first | rfl | assumption | exact ⟨_, rfl⟩ | exact ⟨_, by assumption⟩ | exact stO upd_same | exact sqO upd_same), pf (by first | rfl | assumption | exact ⟨_, rfl⟩ | exact ⟨_, by assumption⟩ | exact stO upd_same | exact sqO upd_same), ?_⟩ | refine ⟨_, pf (by first | rfl | assumption | exact ⟨_, rfl⟩ | exact ⟨_, by assumption⟩ | exact stO upd_same | exact sqO upd_same), pf (by first | rfl | assumption | exact ⟨_, rfl⟩ | exact ⟨_, by assumption⟩ | exact stO upd_same | exact sqO upd_same), ?_⟩ | refine ⟨_, _, _, pf (by first | rfl | assumption | exact ⟨_, rfl⟩ | exact ⟨_, by assumption⟩ | exact stO upd_same | exact sqO upd_same), pf (by first | rfl | assumption | exact ⟨_, rfl⟩ | exact ⟨_, by assumption⟩ | exact stO upd_same | exact sqO upd_same), pf (by first | rfl | assumption | exact ⟨_, rfl⟩ | exact ⟨_, by assumption⟩ | exact stO upd_same | exact sqO upd_same), pf (by first | rfl | assumption | exact ⟨_, rfl⟩ | exact ⟨_, by assumption⟩ | exact stO upd_same | exact sqO upd_same), ?_⟩ | refine ⟨_, _, _, pf (by first | rfl | assumption | exact ⟨_, rfl⟩ | exact ⟨_, by assumption⟩ | exact stO upd_same | exact sqO upd_same), pf (by first | rfl | assumption | exact ⟨_, rfl⟩ | exact ⟨_, by assumption⟩ | exact stO upd_same | exact sqO upd_same), pf (by first | rfl | assumption | exact ⟨_, rfl⟩ | exact ⟨_, by assumption⟩ | exact stO upd_same | exact sqO upd_same), ?_⟩ | refine ⟨_, _, _, pf (by first | rfl | assumption | exact ⟨_, rfl⟩ | exact ⟨_, by assumption⟩ | exact stO upd_same | exact sqO upd_same), pf (by first | rfl | assumption | exact ⟨_, rfl⟩ | exact ⟨_, by assumption⟩ | exact stO upd_same | exact sqO upd_same), ?_⟩ | refine ⟨_, _, pf (by first | rfl | assumption | exact ⟨_, rfl⟩ | exact ⟨_, by assumption⟩ | exact stO upd_same | exact sqO upd_same), pf (by first | rfl | assumption | exact ⟨_, rfl⟩ | exact ⟨_, by assumption⟩ | exact stO upd_same | exact sqO upd_same), pf (by first | rfl | assumption | exact ⟨_, rfl⟩ | exact ⟨_, by assumption⟩ | exact stO upd_same | exact sqO upd_same), ?_⟩ | refine ⟨_, _, _, _, pf (by first | rfl | assumption | exact ⟨_, rfl⟩ | exact ⟨_, by assumption⟩ | exact stO upd_same | exact sqO upd_same), pf (by first | rfl | assumption | exact ⟨_, rfl⟩ | exact ⟨_, by assumption⟩ | exact stO upd_same | exact sqO upd_same), pf (by first | rfl | assumption | exact ⟨_, rfl⟩ | exact ⟨_, by assumption⟩ | exact stO upd_same | exact sqO upd_same), ?_⟩ | refine ⟨_, _, _, _, pf (by first | rfl | assumption | exact ⟨_, rfl⟩ | exact ⟨_, by assumption⟩ | exact stO upd_same | exact sqO upd_same), pf (by first | rfl | assumption | exact ⟨_, rfl⟩ | exact ⟨_, by assumption⟩ | exact stO upd_same | exact sqO upd_same), pf (by first | rfl | assumption | exact ⟨_, rfl⟩ | exact ⟨_, by assumption⟩ | exact stO upd_same | exact sqO upd_same), pf (by first | rfl | assumption | exact ⟨_, rfl⟩ | exact ⟨_, by assumption⟩ | exact stO upd_same | exact sqO upd_same), ?_⟩ | refine ⟨pf (by first | rfl | assumption | exact ⟨_, rfl⟩ | exact ⟨_, by assumption⟩ | exact stO upd_same | exact sqO upd_same), ?_⟩)
        refine out ?_
        unfold numIn
        refine if_pos ?_
        rw [tx_len] at h1
        have : ¬ 1 ≤ (digs l).length := fun q => h1 (decide_eq_true (by omega))
        rw [decide_eq_false this]
        simp
def valP : Option PyData → V
  | some (.str z) => .str z
  | some (.int i) => .int i
  | _ => .non
def sp_part_in : Sp := fun vs H Q _ => ∃ l, vs = [.str (tx l)] ∧ l.length ≤ 100000 ∧ ∀ H', Same H H' → Q (valP (partIn l)) H'
theorem sc_part_in : FnScope ["word"] ["word"] (defScope s_part_in) := ⟨rfl, rfl, rfl, by decide +kernel, rfl, by decide +kernel, by decide +kernel⟩
theorem ok_part_in (T : Txt P K mg F D C) : FnOk P w K mg base CX0 2 (F 9) (D 9) ["word"] sp_part_in := by
  refine T.u_part_in.ok sc_part_in (fun vs H Q E h => ?_) (fun cdv A outer s H vs Q E hr h => ?_)
  · obtain ⟨l, rfl, _⟩ := h
    rfl
  · obtain ⟨l, rfl, hl, k⟩ := h
    have G_is_name := ok_is_name (P := P) (w := w) (base := base) T
    have G_number_in := ok_number_in (P := P) (w := w) (base := base) T
    refine ⟨_, (pss_cons (ps_if (pt_val (pe_call G_is_name (hr.mono (by omega)) (by rfl) T.g_is_name T.u_is_name.kp T.b_is_name .nil pass0 (pa_cons (pv 0) pa_nil))) (pss_one (ps_ret (pv 0)))
        pss_nil)
      (pss_one (ps_ret (pe_call G_number_in (hr.mono (by omega)) (by rfl) T.g_number_in T.u_number_in.kp T.b_number_in .nil pass0 (pa_cons (pv 0) pa_nil))))), ?_⟩
    refine ⟨_, rfl, _, .str (tx l), rfl, .str _, fun z ez => ?_, fun H1 e => ?_⟩
    · cases ez
      rw [tx_len]
      exact hl
    · have nE : nameD (.str (tx l)) = nameL l := by
        show nameL (tx l).cps.toList = _
        rw [tx_list]
      rw [nE]
      refine ⟨_, rfl, ite2 (fun h1 => ?_) (fun h1 => ?_)⟩
      · have := k H1 e
        rw [show partIn l = _ from if_pos h1] at this
        exact ⟨_, rfl, this⟩
      · refine ⟨_, rfl, _, rfl, hl, fun H2 e2 => ?_⟩
        have := k H2 (e.trans e2)
        rw [show partIn l = _ from if_neg h1] at this
        cases z : numIn l with
        | none => rw [z] at this; exact this
        | some i => rw [z] at this; exact this
/-- how far the scan has come after i signs -/
def sc (l : List Nat) (i : Nat) : List (List Nat) × List Nat := (l.take i).foldl scan1 ([], [])
theorem sc_succ {l : List Nat} {i c : Nat} (h : l[i]? = some c) : sc l (i + 1) = scan1 (sc l i) c := by
  unfold sc
  rw [List.take_succ, h, List.foldl_append]
  rfl
theorem sc_all (l : List Nat) : sc l l.length = l.foldl scan1 ([], []) := by
  unfold sc
  rw [List.take_length]
theorem words_at (l : List Nat) (i : Nat) : (sc l i).1.length ≤ 2 * l.length ∧ (sc l i).2.length ≤ l.length := by
  have h := scan_ok (l.take i)
  have h3 := h.len
  have hl : (l.take i).length ≤ l.length := by rw [List.length_take]; omega
  refine ⟨by unfold sc; omega, ?_⟩
  have key : ∀ (m : List Nat) (s : List (List Nat) × List Nat), (m.foldl scan1 s).2.length ≤ s.2.length + m.length := by
    intro m
    induction m with
    | nil => intro s; simp
    | cons c m ih =>
      intro s
      rw [List.foldl_cons, List.length_cons]
      have := ih (scan1 s c)
      have h2 : (scan1 s c).2.length ≤ s.2.length + 1 := by
        unfold scan1
        split
        · simp
        · simp
      omega
  have := key (l.take i) ([], [])
  simp only [List.length_nil] at this
  unfold sc
  omega
def sp_words_in : Sp := fun vs H Q _ => ∃ l, vs = [.str (tx l)] ∧ l.length ≤ 100000 ∧ ∀ p H', H p = none → Same H H' → H' p = some (.lst (strsV (wordsIn l))) → Q (.ref p) H'
theorem sc_words_in : FnScope ["text", "found", "word", "sign"] ["text"] (defScope s_words_in) := ⟨rfl, rfl, rfl, by decide +kernel, rfl, by decide +kernel, by decide +kernel⟩
theorem ok_words_in (T : Txt P K mg F D C) : FnOk P w K mg base CX0 1 (F 10) (D 10) ["text"] sp_words_in := by
  refine T.u_words_in.ok sc_words_in (fun vs H Q E h => ?_) (fun cdv A outer s H vs Q E hr h => ?_)
  · obtain ⟨l, rfl, _⟩ := h
    rfl
  · obtain ⟨l, rfl, hl, k⟩ := h
    have zz : ∀ n : Nat, n ≤ 100001 → n ≤ sizeLine := fun n h => Nat.le_trans h (by decide)
    refine ⟨_, (pss_cons (ps_par (i := 1) (j := 2) (by rfl) sc_words_in.nd rfl rfl (by decide) rfl rfl (pa_cons (pe_lst pa_nil) (pa_cons pe_str pa_nil)) (by rfl))
      (pss_cons (ps_for PassesOwn.never rfl (pi_str (pe_op op_add_str (pv 0) pe_str)) (pg_name (i := 3) sc_words_in.nd rfl (.inl rfl))
        (pss_one (ps_if (pt_cmpR op_in_sign (pv 3) pe_str rfl) (pss_mid (ps_if (pt_cmpR op_ne (pv 2) pe_str (nomark _)) (pss_one (ps_expr (pe_bm PySem.F.plainAttrs_list PySem.F.slot_list_append PySem.F.type_list_append mt_append (pv 1) (pa_cons (pv 2) pa_nil))))
            pss_nil)
          (pss_mid (ps_if (pt_cmpR op_ne (pv 3) pe_str (nomark _)) (pss_one (ps_expr (pe_bm PySem.F.plainAttrs_list PySem.F.slot_list_append PySem.F.type_list_append mt_append (pv 1) (pa_cons (pv 3) pa_nil))))
            pss_nil)
          (pss_one (ps_set (i := 2) sc_words_in.nd rfl (.inl rfl) pe_str))))
          (pss_one (ps_set (i := 2) sc_words_in.nd rfl (.inl rfl) (pe_op op_add_str (pv 2) (pv 3)))))))
      (pss_one (ps_ret (pv 1))))), ?_⟩
    have sp1 : (tx l).length + (tx [32]).length ≤ sizeLine := zz _ (by rw [tx_len, tx_len]; simp only [List.length_singleton]; omega)
    refine ⟨by decide, fun f nf => ?_⟩
    repeat (first | refine ⟨_, pf (by first | rfl | assumption | exact ⟨_, rfl⟩ | exact ⟨_, by assumption⟩ | exact stO upd_same | exact sqO upd_same), ?_⟩ | refine ⟨_, _, pf (by first | rfl | assumption | exact ⟨_, rfl⟩ | exact ⟨_, by assumption⟩ | exact stO upd_same | exact sqO upd_same), ?_⟩ | refine ⟨_, _, pf (by first | rfl | assumption | exact ⟨_, rfl⟩ | exact ⟨_, by assumption⟩ | exact stO upd_same | exact sqO upd_same), pf (by first | rfl | assumption | exact ⟨_, rfl⟩ | exact ⟨_, by assumption⟩ | exact stO upd_same | exact sqO upd_same), ?_⟩ | refine ⟨_, pf (by first | rfl | assumption | exact ⟨_, rfl⟩ | exact ⟨_, by assumption⟩ | exact stO upd_same | exact sqO upd_same), pf (by first | rfl | assumption | exact ⟨_, rfl⟩ | exact ⟨_, by assumption⟩ | exact stO upd_same | exact sqO upd_same), ?_⟩ | refine ⟨_, _, _, pf (by first | rfl | assumption | exact ⟨_, rfl⟩ | exact ⟨_, by assumption⟩ | exact stO upd_same | exact sqO upd_same), pf (by first | rfl | assumption | exact ⟨_, rfl⟩ | exact ⟨_, by assumption⟩ | exact stO upd_same | exact sqO upd_same), pf (by first | rfl | assumption | exact ⟨_, rfl⟩ | exact ⟨_, by assumption⟩ | exact stO upd_same | exact sqO upd_same), pf (by first | rfl | assumption | exact ⟨_, rfl⟩ | exact ⟨_, by assumption⟩ | exact stO upd_same | exact sqO upd_same), ?_⟩ | refine ⟨_, _, _, pf (by first | rfl | assumption | exact ⟨_, rfl⟩ | exact ⟨_, by assumption⟩ | exact stO upd_same | exact sqO upd_same), pf (by first | rfl | assumption | exact ⟨_, rfl⟩ | exact ⟨_, by assumption⟩ | exact stO upd_same | exact sqO upd_same), pf (by first | rfl | assumption | exact ⟨_, rfl⟩ | exact ⟨_, by assumption⟩ | exact stO upd_same | exact sqO upd_same), ?_⟩ | refine ⟨_, _, _, pf (by first | rfl | assumption | exact ⟨_, rfl⟩ | exact ⟨_, by assumption⟩ | exact stO upd_same | exact sqO upd_same), pf (by first | rfl | assumption | exact ⟨_, rfl⟩ | exact ⟨_, by assumption⟩ | exact stO upd_same | exact sqO upd_same), ?_⟩ | refine ⟨_, _, pf (by first | rfl | assumption | exact ⟨_, rfl⟩ | exact ⟨_, by assumption⟩ | exact stO upd_same | exact sqO upd_same), pf (by first | rfl | assumption | exact ⟨_, rfl⟩ | exact ⟨_, by assumption⟩ | exact stO upd_same | exact sqO upd_same), pf (by first | rfl | assumption | exact ⟨_, rfl⟩ | exact ⟨_, by assumption⟩ | exact stO upd_same | exact sqO upd_same), ?_⟩ | refine ⟨_, _, _, _, pf (by first | rfl | assumption | exact ⟨_, rfl⟩ | exact ⟨_, by assumption⟩ | exact stO upd_same | exact sqO upd_same), pf (by first | rfl | assumption | exact ⟨_, rfl⟩ | exact ⟨_, by assumption⟩ | exact stO upd_same | exact sqO upd_same), pf (by first | rfl | assumption | exact ⟨_, rfl⟩ | exact ⟨_, by assumption⟩ | exact stO upd_same | exact sqO upd_same), ?_⟩ | refine ⟨_, _, _, _, pf (by first | rfl | assumption | exact ⟨_, rfl⟩ | exact ⟨_, by assumption⟩ | exact stO upd_same | exact sqO upd_same), pf (by first | rfl | assumption | exact ⟨_, rfl⟩ | exact ⟨_, by assumption⟩ | exact stO upd_same | exact sqO upd_same), pf (by first | rfl | assumption | exact ⟨_, rfl⟩ | exact ⟨_, by assumption⟩ | exact stO upd_same | exact sqO upd_same), pf (by first | rfl | assumption | exact ⟨_, rfl⟩ | exact ⟨_, by assumption⟩ | exact stO upd_same | exact sqO upd_same), ?_⟩ | refine ⟨pf (by first | rfl | assumption | exact ⟨_, rfl⟩ | exact ⟨_, by assumption⟩ | exact stO upd_same | exact sqO upd_same), ?_⟩)
    have et : tx l ++ Str.ofString " " = tx (l ++ [32]) := tx_app l [32]
    rw [et]
    have wl := fun i => words_at (l ++ [32]) i
    refine for_it walk_str (fun i σ G => Same H G ∧ G f = some (.lst (strsV (sc (l ++ [32]) i).1)) ∧ ∃ a, σ = [some (.str (tx l)), some (.ref f), some (.str (tx (sc (l ++ [32]) i).2)), a]) ⟨same_new nf, upd_same, _, rfl⟩ (fun _ _ _ _ _ => trivial) ?_ ?_
    · rintro i x σ G G2 hi ⟨e, hf, a, rfl⟩ y
      obtain ⟨rfl, c, hc, rfl⟩ := y_str y
      rw [tx_size] at hi
      have st := sc_succ hc
      have ln := wl i
      rw [List.length_append, List.length_singleton] at ln
      have s1 : (strsV (sc (l ++ [32]) i).1).length < sizeLine := by
        unfold strsV
        rw [List.length_map]
        exact Nat.lt_of_lt_of_le (show _ < 1000000 by omega) (by decide)
      have sepE : ∀ d : Nat, decide (d ∈ (Str.ofString " ()").cps.toList) = isSep d := fun d => by
        show decide (d ∈ [32, 40, 41]) = _
        unfold isSep
        simp
      generalize sc (l ++ [32]) i = st0 at st hf ln s1 ⊢
      obtain ⟨ws, v⟩ := st0
      replace ln : ws.length ≤ 2 * (l.length + 1) ∧ v.length ≤ l.length + 1 := ln
      refine ⟨_, rfl, c, _, rfl, rfl, _, rfl, ?_⟩
      rw [sepE]
      refine ite2 (fun h1 => ?_) (fun h1 => ?_)
      · have st2 : sc (l ++ [32]) (i + 1) = (if c = 32 then flush ws v else flush ws v ++ [[c]], []) := st.trans (if_pos h1)
        rw [st2]
        refine ⟨fun σ G2 => Same H G2 ∧ G2 f = some (.lst (strsV (flush ws v))) ∧ σ = [some (.str (tx l)), some (.ref f), some (.str (tx v)), some (.str (tx [c]))], ?_, ?_⟩
        · repeat (first | refine ⟨_, pf (by first | rfl | assumption | exact ⟨_, rfl⟩ | exact ⟨_, by assumption⟩ | exact stO upd_same | exact sqO upd_same), ?_⟩ | refine ⟨_, _, pf (by first | rfl | assumption | exact ⟨_, rfl⟩ | exact ⟨_, by assumption⟩ | exact stO upd_same | exact sqO upd_same), ?_⟩ | refine ⟨_, _, pf (by first | rfl | assumption | exact ⟨_, rfl⟩ | exact ⟨_, by assumption⟩ | exact stO upd_same | exact sqO upd_same), pf (by first | rfl | assumption | exact ⟨_, rfl⟩ | exact ⟨_, by assumption⟩ | exact stO upd_same | exact sqO upd_same), ?_⟩ | refine ⟨_, pf (by first | rfl | assumption | exact ⟨_, rfl⟩ | exact ⟨_, by assumption⟩ | exact stO upd_same | exact sqO upd_same), pf (by first | rfl | assumption | exact ⟨_, rfl⟩ | exact ⟨_, by assumption⟩ | exact stO upd_same | exact sqO upd_same), ?_⟩ | refine ⟨_, _, _, pf (by first | rfl | assumption | exact ⟨_, rfl⟩ | exact ⟨_, by assumption⟩ | exact stO upd_same | exact sqO upd_same), pf (by first | rfl | assumption | exact ⟨_, rfl⟩ | exact ⟨_, by assumption⟩ | exact stO upd_same | exact sqO upd_same), pf (by first | rfl | assumption | exact ⟨_, rfl⟩ | exact ⟨_, by assumption⟩ | exact stO upd_same | exact sqO upd_same), pf (by first | rfl | assumption | exact ⟨_, rfl⟩ | exact ⟨_, by assumption⟩ | exact stO upd_same | exact sqO upd_same), ?_⟩ | refine ⟨_, _, _, pf (by first | rfl | assumption | exact ⟨_, rfl⟩ | exact ⟨_, by assumption⟩ | exact stO upd_same | exact sqO upd_same), pf (by first | rfl | assumption | exact ⟨_, rfl⟩ | exact ⟨_, by assumption⟩ | exact stO upd_same | exact sqO upd_same), pf (by first | rfl | assumption | exact ⟨_, rfl⟩ | exact ⟨_, by assumption⟩ | exact stO upd_same | exact sqO upd_same), ?_⟩ | refine ⟨_, _, _, pf (by first | rfl | assumption | exact ⟨_, rfl⟩ | exact ⟨_, by assumption⟩ | exact stO upd_same | exact sqO upd_same), pf (by first | rfl | assumption | exact ⟨_, rfl⟩ | exact ⟨_, by assumption⟩ | exact stO upd_same | exact sqO upd_same), ?_⟩ | refine ⟨_, _, pf (by first | rfl | assumption | exact ⟨_, rfl⟩ | exact ⟨_, by assumption⟩ | exact stO upd_same | exact sqO upd_same), pf (by first | rfl | assumption | exact ⟨_, rfl⟩ | exact ⟨_, by assumption⟩ | exact stO upd_same | exact sqO upd_same), pf (by first | rfl | assumption | exact ⟨_, rfl⟩ | exact ⟨_, by assumption⟩ | exact stO upd_same | exact sqO upd_same), ?_⟩ | refine ⟨_, _, _, _, pf (by first | rfl | assumption | exact ⟨_, rfl⟩ | exact ⟨_, by assumption⟩ | exact stO upd_same | exact sqO upd_same), pf (by first | rfl | assumption | exact ⟨_, rfl⟩ | exact ⟨_, by assumption⟩ | exact stO upd_same | exact sqO upd_same), pf (by first | rfl | assumption | exact ⟨_, rfl⟩ | exact ⟨_, by assumption⟩ | exact stO upd_same | exact sqO upd_same), ?_⟩ | refine ⟨_, _, _, _, pf (by first | rfl | assumption | exact ⟨_, rfl⟩ | exact ⟨_, by assumption⟩ | exact stO upd_same | exact sqO upd_same), pf (by first | rfl | assumption | exact ⟨_, rfl⟩ | exact ⟨_, by assumption⟩ | exact stO upd_same | exact sqO upd_same), pf (by first | rfl | assumption | exact ⟨_, rfl⟩ | exact ⟨_, by assumption⟩ | exact stO upd_same | exact sqO upd_same), pf (by first | rfl | assumption | exact ⟨_, rfl⟩ | exact ⟨_, by assumption⟩ | exact stO upd_same | exact sqO upd_same), ?_⟩ | refine ⟨pf (by first | rfl | assumption | exact ⟨_, rfl⟩ | exact ⟨_, by assumption⟩ | exact stO upd_same | exact sqO upd_same), ?_⟩)
          have v0 : decide (V.str (tx v) = V.str (Str.ofString "")) = decide (v = []) := dec_tx v []
          refine ite2 (fun h2 => ?_) (fun h2 => ?_)
          · rw [v0] at h2
            have hv : ¬ v = [] := by simpa using h2
            repeat (first | refine ⟨_, pf (by first | rfl | assumption | exact ⟨_, rfl⟩ | exact ⟨_, by assumption⟩ | exact stO upd_same | exact sqO upd_same), ?_⟩ | refine ⟨_, _, pf (by first | rfl | assumption | exact ⟨_, rfl⟩ | exact ⟨_, by assumption⟩ | exact stO upd_same | exact sqO upd_same), ?_⟩ | refine ⟨_, _, pf (by first | rfl | assumption | exact ⟨_, rfl⟩ | exact ⟨_, by assumption⟩ | exact stO upd_same | exact sqO upd_same), pf (by first | rfl | assumption | exact ⟨_, rfl⟩ | exact ⟨_, by assumption⟩ | exact stO upd_same | exact sqO upd_same), ?_⟩ | refine ⟨_, pf (by first | rfl | assumption | exact ⟨_, rfl⟩ | exact ⟨_, by assumption⟩ | exact stO upd_same | exact sqO upd_same), pf (by first | rfl | assumption | exact ⟨_, rfl⟩ | exact ⟨_, by assumption⟩ | exact stO upd_same | exact sqO upd_same), ?_⟩ | refine ⟨_, _, _, pf (by first | rfl | assumption | exact ⟨_, rfl⟩ | exact ⟨_, by assumption⟩ | exact stO upd_same | exact sqO upd_same), pf (by first | rfl | assumption | exact ⟨_, rfl⟩ | exact ⟨_, by assumption⟩ | exact stO upd_same | exact sqO upd_same), pf (by first | rfl | assumption | exact ⟨_, rfl⟩ | exact ⟨_, by assumption⟩ | exact stO upd_same | exact sqO upd_same), pf (by first | rfl | assumption | exact ⟨_, rfl⟩ | exact ⟨_, by assumption⟩ | exact stO upd_same | exact sqO upd_same), ?_⟩ | refine ⟨_, _, _, pf (by first | rfl | assumption | exact ⟨_, rfl⟩ | exact ⟨_, by assumption⟩ | exact stO upd_same | exact sqO upd_same), pf (by first | rfl | assumption | exact ⟨_, rfl⟩ | exact ⟨_, by assumption⟩ | exact stO upd_same | exact sqO upd_same), pf (by first | rfl | assumption | exact ⟨_, rfl⟩ | exact ⟨_, by assumption⟩ | exact stO upd_same | exact sqO upd_same), ?_⟩ | refine ⟨_, _, _, pf (by first | rfl | assumption | exact ⟨_, rfl⟩ | exact ⟨_, by assumption⟩ | exact stO upd_same | exact sqO upd_same), pf (by first | rfl | assumption | exact ⟨_, rfl⟩ | exact ⟨_, by assumption⟩ | exact stO upd_same | exact sqO upd_same), ?_⟩ | refine ⟨_, _, pf (by first | rfl | assumption | exact ⟨_, rfl⟩ | exact ⟨_, by assumption⟩ | exact stO upd_same | exact sqO upd_same), pf (by first | rfl | assumption | exact ⟨_, rfl⟩ | exact ⟨_, by assumption⟩ | exact stO upd_same | exact sqO upd_same), pf (by first | rfl | assumption | exact ⟨_, rfl⟩ | exact ⟨_, by assumption⟩ | exact stO upd_same | exact sqO upd_same), ?_⟩ | refine ⟨_, _, _, _, pf (by first | rfl | assumption | exact ⟨_, rfl⟩ | exact ⟨_, by assumption⟩ | exact stO upd_same | exact sqO upd_same), pf (by first | rfl | assumption | exact ⟨_, rfl⟩ | exact ⟨_, by assumption⟩ | exact stO upd_same | exact sqO upd_same), pf (by first | rfl | assumption | exact ⟨_, rfl⟩ | exact ⟨_, by assumption⟩ | exact stO upd_same | exact sqO upd_same), ?_⟩ | refine ⟨_, _, _, _, pf (by first | rfl | assumption | exact ⟨_, rfl⟩ | exact ⟨_, by assumption⟩ | exact stO upd_same | exact sqO upd_same), pf (by first | rfl | assumption | exact ⟨_, rfl⟩ | exact ⟨_, by assumption⟩ | exact stO upd_same | exact sqO upd_same), pf (by first | rfl | assumption | exact ⟨_, rfl⟩ | exact ⟨_, by assumption⟩ | exact stO upd_same | exact sqO upd_same), pf (by first | rfl | assumption | exact ⟨_, rfl⟩ | exact ⟨_, by assumption⟩ | exact stO upd_same | exact sqO upd_same), ?_⟩ | refine ⟨pf (by first | rfl | assumption | exact ⟨_, rfl⟩ | exact ⟨_, by assumption⟩ | exact stO upd_same | exact sqO upd_same), ?_⟩)
            refine ⟨tyV_lst hf, _, rfl, f, _, _, rfl, rfl, hf, s1, same_put e nf, ?_, rfl⟩
            rw [upd_same]
            unfold flush strsV
            rw [if_neg hv, List.map_append]
            rfl
          · rw [v0] at h2
            have hv : v = [] := by simpa using h2
            refine ⟨e, ?_, rfl⟩
            unfold flush
            rw [if_pos hv]
            exact hf
        · rintro σ G2 ⟨e2, hf2, rfl⟩
          have s2 : (strsV (flush ws v)).length < sizeLine := by
            unfold strsV flush
            refine Nat.lt_of_lt_of_le (show _ < 1000000 from ?_) (by decide)
            rw [List.length_map]
            split
            · omega
            · rw [List.length_append, List.length_singleton]
              omega
          refine ⟨fun σ G3 => Same H G3 ∧ G3 f = some (.lst (strsV (if c = 32 then flush ws v else flush ws v ++ [[c]]))) ∧ σ = [some (.str (tx l)), some (.ref f), some (.str (tx v)), some (.str (tx [c]))], ?_, ?_⟩
          · repeat (first | refine ⟨_, pf (by first | rfl | assumption | exact ⟨_, rfl⟩ | exact ⟨_, by assumption⟩ | exact stO upd_same | exact sqO upd_same), ?_⟩ | refine ⟨_, _, pf (by first | rfl | assumption | exact ⟨_, rfl⟩ | exact ⟨_, by assumption⟩ | exact stO upd_same | exact sqO upd_same), ?_⟩ | refine ⟨_, _, pf (by first | rfl | assumption | exact ⟨_, rfl⟩ | exact ⟨_, by assumption⟩ | exact stO upd_same | exact sqO upd_same), pf (by first | rfl | assumption | exact ⟨_, rfl⟩ | exact ⟨_, by assumption⟩ | exact stO upd_same | exact sqO upd_same), ?_⟩ | refine ⟨_, pf (by first | rfl | assumption | exact ⟨_, rfl⟩ | exact ⟨_, by assumption⟩ | exact stO upd_same | exact sqO upd_same), pf (by first | rfl | assumption | exact ⟨_, rfl⟩ | exact ⟨_, by assumption⟩ | exact stO upd_same | exact sqO upd_same), ?_⟩ | refine ⟨_, _, _, pf (by first | rfl | assumption | exact ⟨_, rfl⟩ | exact ⟨_, by assumption⟩ | exact stO upd_same | exact sqO upd_same), pf (by first | rfl | assumption | exact ⟨_, rfl⟩ | exact ⟨_, by assumption⟩ | exact stO upd_same | exact sqO upd_same), pf (by first | rfl | assumption | exact ⟨_, rfl⟩ | exact ⟨_, by assumption⟩ | exact stO upd_same | exact sqO upd_same), pf (by first | rfl | assumption | exact ⟨_, rfl⟩ | exact ⟨_, by assumption⟩ | exact stO upd_same | exact sqO upd_same), ?_⟩ | refine ⟨_, _, _, pf (by first | rfl | assumption | exact ⟨_, rfl⟩ | exact ⟨_, by assumption⟩ | exact stO upd_same | exact sqO upd_same), pf (by first | rfl | assumption | exact ⟨_, rfl⟩ | exact ⟨_, by assumption⟩ | exact stO upd_same | exact sqO upd_same), pf (by first | rfl | assumption | exact ⟨_, rfl⟩ | exact ⟨_, by assumption⟩ | exact stO upd_same | exact sqO upd_same), ?_⟩ | refine ⟨_, _, _, pf (by first | rfl | assumption | exact ⟨_, rfl⟩ | exact ⟨_, by assumption⟩ | exact stO upd_same | exact sqO upd_same), pf (by first | rfl | assumption | exact ⟨_, rfl⟩ | exact ⟨_, by assumption⟩ | exact stO upd_same | exact sqO upd_same), ?_⟩ | refine ⟨_, _, pf (by first | rfl | assumption | exact ⟨_, rfl⟩ | exact ⟨_, by assumption⟩ | exact stO upd_same | exact sqO upd_same), pf (by first | rfl | assumption | exact ⟨_, rfl⟩ | exact ⟨_, by assumption⟩ | exact stO upd_same | exact sqO upd_same), pf (by first | rfl | assumption | exact ⟨_, rfl⟩ | exact ⟨_, by assumption⟩ | exact stO upd_same | exact sqO upd_same), ?_⟩ | refine ⟨_, _, _, _, pf (by first | rfl | assumption | exact ⟨_, rfl⟩ | exact ⟨_, by assumption⟩ | exact stO upd_same | exact sqO upd_same), pf (by first | rfl | assumption | exact ⟨_, rfl⟩ | exact ⟨_, by assumption⟩ | exact stO upd_same | exact sqO upd_same), pf (by first | rfl | assumption | exact ⟨_, rfl⟩ | exact ⟨_, by assumption⟩ | exact stO upd_same | exact sqO upd_same), ?_⟩ | refine ⟨_, _, _, _, pf (by first | rfl | assumption | exact ⟨_, rfl⟩ | exact ⟨_, by assumption⟩ | exact stO upd_same | exact sqO upd_same), pf (by first | rfl | assumption | exact ⟨_, rfl⟩ | exact ⟨_, by assumption⟩ | exact stO upd_same | exact sqO upd_same), pf (by first | rfl | assumption | exact ⟨_, rfl⟩ | exact ⟨_, by assumption⟩ | exact stO upd_same | exact sqO upd_same), pf (by first | rfl | assumption | exact ⟨_, rfl⟩ | exact ⟨_, by assumption⟩ | exact stO upd_same | exact sqO upd_same), ?_⟩ | refine ⟨pf (by first | rfl | assumption | exact ⟨_, rfl⟩ | exact ⟨_, by assumption⟩ | exact stO upd_same | exact sqO upd_same), ?_⟩)
            have v0 : decide (V.str (tx [c]) = V.str (Str.ofString " ")) = decide (c = 32) := (dec_tx [c] [32]).trans (by simp)
            refine ite2 (fun h2 => ?_) (fun h2 => ?_)
            · rw [v0] at h2
              have hv : ¬ c = 32 := by simpa using h2
              repeat (first | refine ⟨_, pf (by first | rfl | assumption | exact ⟨_, rfl⟩ | exact ⟨_, by assumption⟩ | exact stO upd_same | exact sqO upd_same), ?_⟩ | refine ⟨_, _, pf (by first | rfl | assumption | exact ⟨_, rfl⟩ | exact ⟨_, by assumption⟩ | exact stO upd_same | exact sqO upd_same), ?_⟩ | refine ⟨_, _, pf (by first | rfl | assumption | exact ⟨_, rfl⟩ | exact ⟨_, by assumption⟩ | exact stO upd_same | exact sqO upd_same), pf (by first | rfl | assumption | exact ⟨_, rfl⟩ | exact ⟨_, by assumption⟩ | exact stO upd_same | exact sqO upd_same), ?_⟩ | refine ⟨_, pf (by first | rfl | assumption | exact ⟨_, rfl⟩ | exact ⟨_, by assumption⟩ | exact stO upd_same | exact sqO upd_same), pf (by first | rfl | assumption | exact ⟨_, rfl⟩ | exact ⟨_, by assumption⟩ | exact stO upd_same | exact sqO upd_same), ?_⟩ | refine ⟨_, _, _, pf (by first | rfl | assumption | exact ⟨_, rfl⟩ | exact ⟨_, by assumption⟩ | exact stO upd_same | exact sqO upd_same), pf (by first | rfl | assumption | exact ⟨_, rfl⟩ | exact ⟨_, by assumption⟩ | exact stO upd_same | exact sqO upd_same), pf (by first | rfl | assumption | exact ⟨_, rfl⟩ | exact ⟨_, by assumption⟩ | exact stO upd_same | exact sqO upd_same), pf (by first | rfl | assumption | exact ⟨_, rfl⟩ | exact ⟨_, by assumption⟩ | exact stO upd_same | exact sqO upd_same), ?_⟩ | refine ⟨_, _, _, pf (by first | rfl | assumption | exact ⟨_, rfl⟩ | exact ⟨_, by assumption⟩ | exact stO upd_same | exact sqO upd_same), pf (by first | rfl | assumption | exact ⟨_, rfl⟩ | exact ⟨_, by assumption⟩ | exact stO upd_same | exact sqO upd_same), pf (by first | rfl | assumption | exact ⟨_, rfl⟩ | exact ⟨_, by assumption⟩ | exact stO upd_same | exact sqO upd_same), ?_⟩ | refine ⟨_, _, _, pf (by first | rfl | assumption | exact ⟨_, rfl⟩ | exact ⟨_, by assumption⟩ | exact stO upd_same | exact sqO upd_same), pf (by first | rfl | assumption | exact ⟨_, rfl⟩ | exact ⟨_, by assumption⟩ | exact stO upd_same | exact sqO upd_same), ?_⟩ | refine ⟨_, _, pf (by first | rfl | assumption | exact ⟨_, rfl⟩ | exact ⟨_, by assumption⟩ | exact stO upd_same | exact sqO upd_same), pf (by first | rfl | assumption | exact ⟨_, rfl⟩ | exact ⟨_, by assumption⟩ | exact stO upd_same | exact sqO upd_same), pf (by first | rfl | assumption | exact ⟨_, rfl⟩ | exact ⟨_, by assumption⟩ | exact stO upd_same | exact sqO upd_same), ?_⟩ | refine ⟨_, _, _, _, pf (by first | rfl | assumption | exact ⟨_, rfl⟩ | exact ⟨_, by assumption⟩ | exact stO upd_same | exact sqO upd_same), pf (by first | rfl | assumption | exact ⟨_, rfl⟩ | exact ⟨_, by assumption⟩ | exact stO upd_same | exact sqO upd_same), pf (by first | rfl | assumption | exact ⟨_, rfl⟩ | exact ⟨_, by assumption⟩ | exact stO upd_same | exact sqO upd_same), ?_⟩ | refine ⟨_, _, _, _, pf (by first | rfl | assumption | exact ⟨_, rfl⟩ | exact ⟨_, by assumption⟩ | exact stO upd_same | exact sqO upd_same), pf (by first | rfl | assumption | exact ⟨_, rfl⟩ | exact ⟨_, by assumption⟩ | exact stO upd_same | exact sqO upd_same), pf (by first | rfl | assumption | exact ⟨_, rfl⟩ | exact ⟨_, by assumption⟩ | exact stO upd_same | exact sqO upd_same), pf (by first | rfl | assumption | exact ⟨_, rfl⟩ | exact ⟨_, by assumption⟩ | exact stO upd_same | exact sqO upd_same), ?_⟩ | refine ⟨pf (by first | rfl | assumption | exact ⟨_, rfl⟩ | exact ⟨_, by assumption⟩ | exact stO upd_same | exact sqO upd_same), ?_⟩)
              refine ⟨tyV_lst hf2, _, rfl, f, _, _, rfl, rfl, hf2, s2, same_put e2 nf, ?_, rfl⟩
              rw [upd_same, if_neg hv]
              unfold strsV
              rw [List.map_append]
              rfl
            · rw [v0] at h2
              have hv : c = 32 := by simpa using h2
              refine ⟨e2, ?_, rfl⟩
              rw [if_pos hv]
              exact hf2
          · rintro σ G3 ⟨e3, hf3, rfl⟩
            exact ⟨e3, hf3, _, rfl⟩
      · have st2 : sc (l ++ [32]) (i + 1) = (ws, v ++ [c]) := st.trans (if_neg h1)
        rw [st2]
        have s3 : (tx v).length + (tx [c]).length ≤ sizeLine := by
          rw [tx_len, tx_len]
          exact Nat.le_trans (show _ ≤ 1000000 by simp only [List.length_singleton]; omega) (by decide)
        repeat (first | refine ⟨_, pf (by first | rfl | assumption | exact ⟨_, rfl⟩ | exact ⟨_, by assumption⟩ | exact stO upd_same | exact sqO upd_same), ?_⟩ | refine ⟨_, _, pf (by first | rfl | assumption | exact ⟨_, rfl⟩ | exact ⟨_, by assumption⟩ | exact stO upd_same | exact sqO upd_same), ?_⟩ | refine ⟨_, _, pf (by first | rfl | assumption | exact ⟨_, rfl⟩ | exact ⟨_, by assumption⟩ | exact stO upd_same | exact sqO upd_same), pf (by first | rfl | assumption | exact ⟨_, rfl⟩ | exact ⟨_, by assumption⟩ | exact stO upd_same | exact sqO upd_same), ?_⟩ | refine ⟨_, pf (by first | rfl | assumption | exact ⟨_, rfl⟩ | exact ⟨_, by assumption⟩ | exact stO upd_same | exact sqO upd_same), pf (by first | rfl | assumption | exact ⟨_, rfl⟩ | exact ⟨_, by assumption⟩ | exact stO upd_same | exact sqO upd_same), ?_⟩ | refine ⟨_, _, _, pf (by first | rfl | assumption | exact ⟨_, rfl⟩ | exact ⟨_, by assumption⟩ | exact stO upd_same | exact sqO upd_same), pf (by first | rfl | assumption | exact ⟨_, rfl⟩ | exact ⟨_, by assumption⟩ | exact stO upd_same | exact sqO upd_same), pf (by first | rfl | assumption | exact ⟨_, rfl⟩ | exact ⟨_, by assumption⟩ | exact stO upd_same | exact sqO upd_same), pf (by first | rfl | assumption | exact ⟨_, rfl⟩ | exact ⟨_, by assumption⟩ | exact stO upd_same | exact sqO upd_same), ?_⟩ | refine ⟨_, _, _, pf (by first | rfl | assumption | exact ⟨_, rfl⟩ | exact ⟨_, by assumption⟩ | exact stO upd_same | exact sqO upd_same), pf (by first | rfl | assumption | exact ⟨_, rfl⟩ | exact ⟨_, by assumption⟩ | exact stO upd_same | exact sqO upd_same), pf (by first | rfl | assumption | exact ⟨_, rfl⟩ | exact ⟨_, by assumption⟩ | exact stO upd_same | exact sqO upd_same), ?_⟩ | refine ⟨_, _, _, pf (by first | rfl | assumption | exact ⟨_, rfl⟩ | exact ⟨_, by assumption⟩ | exact stO upd_same | exact sqO upd_same), pf (by first | rfl | assumption | exact ⟨_, rfl⟩ | exact ⟨_, by assumption⟩ | exact stO upd_same | exact sqO upd_same), ?_⟩ | refine ⟨_, _, pf (by first | rfl | assumption | exact ⟨_, rfl⟩ | exact ⟨_, by assumption⟩ | exact stO upd_same | exact sqO upd_same), pf (by first | rfl | assumption | exact ⟨_, rfl⟩ | exact ⟨_, by assumption⟩ | exact stO upd_same | exact sqO upd_same), pf (by first | rfl | assumption | exact ⟨_, rfl⟩ | exact ⟨_, by assumption⟩ | exact stO upd_same | exact sqO upd_same), ?_⟩ | refine ⟨_, _, _, _, pf (by first | rfl | assumption | exact ⟨_, rfl⟩ | exact ⟨_, by assumption⟩ | exact stO upd_same | exact sqO upd_same), pf (by first | rfl | assumption | exact ⟨_, rfl⟩ | exact ⟨_, by assumption⟩ | exact stO upd_same | exact sqO upd_same), pf (by first | rfl | assumption | exact ⟨_, rfl⟩ | exact ⟨_, by assumption⟩ | exact stO upd_same | exact sqO upd_same), ?_⟩ | refine ⟨_, _, _, _, pf (by first | rfl | assumption | exact ⟨_, rfl⟩ | exact ⟨_, by assumption⟩ | exact stO upd_same | exact sqO upd_same), pf (by first | rfl | assumption | exact ⟨_, rfl⟩ | exact ⟨_, by assumption⟩ | exact stO upd_same | exact sqO upd_same), pf (by first | rfl | assumption | exact ⟨_, rfl⟩ | exact ⟨_, by assumption⟩ | exact stO upd_same | exact sqO upd_same), pf (by first | rfl | assumption | exact ⟨_, rfl⟩ | exact ⟨_, by assumption⟩ | exact stO upd_same | exact sqO upd_same), ?_⟩ | refine ⟨pf (by first | rfl | assumption | exact ⟨_, rfl⟩ | exact ⟨_, by assumption⟩ | exact stO upd_same | exact sqO upd_same), ?_⟩)
        rw [tx_app]
        exact ⟨_, rfl⟩
    · rintro σ G ⟨e, hf, a, rfl⟩
      rw [tx_size, sc_all] at hf
      exact ⟨_, rfl, k f G nf e hf⟩
end
end LW
set_option Elab.async false
set_option linter.all false
set_option maxRecDepth 100000
set_option maxHeartbeats 8000000
/-! k11: event_in. -/
namespace LW
open PySem L2
section
variable {P : Program} {w : World} {K : PySem.W.Frag} {mg : Str → Option Value} {base : Heap} {F : Nat → Addr} {D : Nat → FuncData} {C : Nat → Addr}
def evD : PyData → Option (List PyData)
  | .str z => evIn z.cps.toList
  | _ => none
def fits : PyData → Prop
  | .str z => z.cps.toList.length ≤ 1000 ∧ z.cps.toList.count 40 ≤ 20
  | _ => True
def sp_event_in (K : PySem.W.Frag) (C0 : Addr) : Sp := fun vs H Q E => ∃ x d, vs = [x] ∧ Dp K H x d ∧ fits d ∧ (∀ ds, evD d = some ds → ∀ v H', Same H H' → Dp K H' v (.tuple ds) → Q v H') ∧ (evD d = none → ∀ p H', Same H H' → H p = none → H' p = some (.xd [("line", x)]) → E (.ref C0) (some p) H')
theorem sc_event_in : FnScope ["line", "text", "check", "rows", "word", "done", "part", "sign"] ["line"] (defScope s_event_in) := ⟨rfl, rfl, rfl, by decide +kernel, rfl, by decide +kernel, by decide +kernel⟩
theorem ok_event_in (T : Txt P K mg F D C) : FnOk P w K mg base (L2.CX P w) 26 (F 11) (D 11) ["line"] (sp_event_in K (C 0)) := by
  have G_figure := ok_figure (P := P) (w := w) (base := base) T
  have G_words_in := ok_words_in (P := P) (w := w) (base := base) T
  have G_part_in := ok_part_in (P := P) (w := w) (base := base) T
  have G_line_of := ok_line_of (P := P) (w := w) (base := base) T 22
  refine T.u_event_in.okX sc_event_in (fun vs H Q E h => ?_) (fun cdv A outer s H vs Q E hr h => ?_)
  · obtain ⟨x, d, rfl, _⟩ := h
    rfl
  · obtain ⟨x, d, rfl, hx, hf, k, ke⟩ := h
    refine ⟨_, (pss_cons (ps_if (PW.pt (pw_or (pt_not (pt_val (pe_callB (r := rIsi K) call_isi (by rfl) T.z_isinstance (by decide +kernel) (pa_cons (pv 0) (pa_cons (pe_bltn (v := .ty "str") (by rfl) T.z_str (by decide +kernel) rfl) pa_nil))))) (pw_or (pt_cmpR op_lt (pe_callB call_len_str (by rfl) T.z_len (by decide +kernel) (pa_cons (pv 0) pa_nil)) pe_int (nomark _)) (pw_or (pt_not (pt_val (pe_callB (r := rAll K) (cr_all rfl) (by rfl) T.z_all (by decide +kernel) (pa_cons (pe_lc (own := [("sign", 7)]) (g := gName 7) (by rfl) sc_event_in.nd (pi_str (pv 0)) (blkOk_by (own := [("sign", 7)]) (N := ["line", "text", "check", "rows", "word", "done", "part", "sign"]) (sc := defScope s_event_in) (by decide +kernel)) (fun _ _ _ _ _ => (pg_name (i := 7) sc_event_in.nd rfl (.inl rfl))) (fun _ _ _ _ _ => pts_nil) (fun _ _ _ _ _ => (pe_cmpR op_in_sign (pv 7) (pe_glob (v := .str tSIGNS) (by rfl) T.s_SIGNS.choose_spec ⟨_, rfl⟩) rfl))) pa_nil)))) (pw_or1 (pt_cmpR op_ne (pe_ix ix_str (pv 0) (pe_un un_neg pe_int) (fun _ _ => rfl)) pe_str (nomark _))))))) (pss_one (ps_raiseErr rfl T.e_BadNote hr (takes_of rfl rfl rfl rfl) (by exact (pa_cons (pv 0) pa_nil))))
        pss_nil)
      (pss_cons (ps_set (i := 1) sc_event_in.nd rfl (.inl rfl) (pe_slice sl_str (pv 0) po_none (po_some (pe_un un_neg pe_int))))
      (pss_cons (ps_set (i := 2) sc_event_in.nd rfl (.inl rfl) (pe_call G_figure (hr.mono (by omega)) (by rfl) T.g_figure T.u_figure.kp T.b_figure .nil pass0 (pa_cons (pv 1) pa_nil)))
      (pss_cons (ps_if (pt_cmpR op_ne (pe_slice sl_str (pv 0) (po_some (pe_un un_neg pe_int)) po_none) (pe_joined (pj_cons (pe_fmt (pe_op op_fdiv (pv 2) pe_int)) (pj_cons (pe_fmt (pe_op op_mod (pv 2) pe_int)) pj_nil))) (nomark _)) (pss_one (ps_raiseErr rfl T.e_BadNote hr (takes_of rfl rfl rfl rfl) (by exact (pa_cons (pv 0) pa_nil))))
        pss_nil)
      (pss_cons (ps_set (i := 3) sc_event_in.nd rfl (.inl rfl) (pe_lst (pa_cons (pe_lst pa_nil) pa_nil)))
      (pss_cons (ps_for (passes_of rfl) rfl (pi_list (pe_call G_words_in (hr.mono (by omega)) (by rfl) T.g_words_in T.u_words_in.kp T.b_words_in .nil pass0 (pa_cons (pv 1) pa_nil))) (pg_name (i := 4) sc_event_in.nd rfl (.inl rfl))
        (pss_one (ps_if (pt_cmpR op_eq (pv 4) pe_str (nomark _)) (pss_one (ps_expr (pe_bm PySem.F.plainAttrs_list PySem.F.slot_list_append PySem.F.type_list_append mt_append (pv 3) (pa_cons (pe_lst pa_nil) pa_nil))))
          (pss_one (ps_if (pt_cmpR op_eq (pv 4) pe_str (nomark _)) (pss_cons (ps_if (pt_cmpR op_eq (pe_callB (r := rLenQ K) cq_len (by rfl) T.z_len (by decide +kernel) (pa_cons (pv 3) pa_nil)) pe_int (nomark _)) (pss_one (ps_raiseErr rfl T.e_BadNote hr (takes_of rfl rfl rfl rfl) (by exact (pa_cons (pv 0) pa_nil))))
              pss_nil)
            (pss_cons (ps_set (i := 5) sc_event_in.nd rfl (.inl rfl) (pe_callTy (r := rTupQ K) cq_tup (by rfl) T.z_tuple (by decide +kernel) (pa_cons (pe_bm0 PySem.F.plainAttrs_list PySem.F.slot_list_pop PySem.F.type_list_pop mt_pop (pv 3)) pa_nil)))
            (pss_one (ps_expr (pe_bm PySem.F.plainAttrs_list PySem.F.slot_list_append PySem.F.type_list_append mt_append (pe_ix (r := rIxL K) ix_list (pv 3) (pe_un un_neg pe_int) (fun _ _ => rfl)) (pa_cons (pv 5) pa_nil))))))
            (pss_cons (ps_set (i := 6) sc_event_in.nd rfl (.inl rfl) (pe_call G_part_in (hr.mono (by omega)) (by rfl) T.g_part_in T.u_part_in.kp T.b_part_in .nil pass0 (pa_cons (pv 4) pa_nil)))
            (pss_cons (ps_if (pt_cmpR op_isN (pv 6) pe_non (nomark _)) (pss_one (ps_raiseErr rfl T.e_BadNote hr (takes_of rfl rfl rfl rfl) (by exact (pa_cons (pv 0) pa_nil))))
              pss_nil)
            (pss_one (ps_expr (pe_bm PySem.F.plainAttrs_list PySem.F.slot_list_append PySem.F.type_list_append mt_append (pe_ix (r := rIxL K) ix_list (pv 3) (pe_un un_neg pe_int) (fun _ _ => rfl)) (pa_cons (pv 6) pa_nil)))))))))))
      (pss_cons (ps_if (PW.pt (pw_or (pt_cmpR op_ne (pe_callB (r := rLenQ K) cq_len (by rfl) T.z_len (by decide +kernel) (pa_cons (pv 3) pa_nil)) pe_int (nomark _)) (pw_or1 (pt_cmpR op_ne (pe_call G_line_of (hr.mono (by omega)) (by rfl) T.g_line_of T.u_line_of.kp T.b_line_of .nil pass0 (pa_cons (pe_callTy (r := rTupQ K) cq_tup (by rfl) T.z_tuple (by decide +kernel) (pa_cons (pe_ix (r := rIxL K) ix_list (pv 3) pe_int (fun _ _ => rfl)) pa_nil)) pa_nil)) (pv 0) (nomark _))))) (pss_one (ps_raiseErr rfl T.e_BadNote hr (takes_of rfl rfl rfl rfl) (by exact (pa_cons (pv 0) pa_nil))))
        pss_nil)
      (pss_one (ps_ret (pe_callTy (r := rTupQ K) cq_tup (by rfl) T.z_tuple (by decide +kernel) (pa_cons (pe_ix (r := rIxL K) ix_list (pv 3) pe_int (fun _ _ => rfl)) pa_nil))))))))))), ?_⟩
    have rz : ∀ G, Same H G → evD d = none → ∀ p, G p = none → E (.ref (C 0)) (some p) (upd G p (.xd [("line", x)])) := fun G e hn p np => ke hn p _ (e.trans (same_new np)) (none_back e np) upd_same
    have zz : ∀ n : Nat, n ≤ 100001 → n ≤ sizeLine := fun n h => Nat.le_trans h (by decide)
    refine ⟨_, rfl, _, _, .type (tyName d), _, isStr d, rfl, .ty _, tyx_d hx, kit_str d, _, rfl, ?_⟩
    refine ite2 (fun h1 => ?_) (fun h1 => ?_)
    · have hn : evD d = none := by
        cases d with
        | str z => exact Bool.noConfusion h1
        | _ => rfl
      exact ⟨_, rfl, _, rfl, rz H (Same.refl H) hn⟩
    obtain ⟨l, rfl⟩ : ∃ l, d = .str (tx l) := by
      cases d with
      | str z => exact ⟨_, by rw [tx_of]⟩
      | _ => exact absurd rfl h1
    cases hx
    have hf2 : l.length ≤ 1000 ∧ l.count 40 ≤ 20 := by
      have : (tx l).cps.toList.length ≤ 1000 ∧ (tx l).cps.toList.count 40 ≤ 20 := hf
      rw [tx_list] at this
      exact this
    have eE : evD (.str (tx l)) = evIn l := by
      show evIn (tx l).cps.toList = _
      rw [tx_list]
    rw [eE] at k ke rz
    have no : okLine l = false → evIn l = none := fun h => if_pos h
    have sz : (tx l).length ≤ sizeLine := zz _ (by rw [tx_len]; omega)
    repeat (first | refine ⟨_, pf (by first | rfl | assumption | exact ⟨_, rfl⟩ | exact ⟨_, by assumption⟩ | exact stO upd_same | exact sqO upd_same), ?_⟩ | refine ⟨_, _, pf (by first | rfl | assumption | exact ⟨_, rfl⟩ | exact ⟨_, by assumption⟩ | exact stO upd_same | exact sqO upd_same), ?_⟩ | refine ⟨_, _, pf (by first | rfl | assumption | exact ⟨_, rfl⟩ | exact ⟨_, by assumption⟩ | exact stO upd_same | exact sqO upd_same), pf (by first | rfl | assumption | exact ⟨_, rfl⟩ | exact ⟨_, by assumption⟩ | exact stO upd_same | exact sqO upd_same), ?_⟩ | refine ⟨_, pf (by first | rfl | assumption | exact ⟨_, rfl⟩ | exact ⟨_, by assumption⟩ | exact stO upd_same | exact sqO upd_same), pf (by first | rfl | assumption | exact ⟨_, rfl⟩ | exact ⟨_, by assumption⟩ | exact stO upd_same | exact sqO upd_same), ?_⟩ | refine ⟨_, _, _, pf (by first | rfl | assumption | exact ⟨_, rfl⟩ | exact ⟨_, by assumption⟩ | exact stO upd_same | exact sqO upd_same), pf (by first | rfl | assumption | exact ⟨_, rfl⟩ | exact ⟨_, by assumption⟩ | exact stO upd_same | exact sqO upd_same), pf (by first | rfl | assumption | exact ⟨_, rfl⟩ | exact ⟨_, by assumption⟩ | exact stO upd_same | exact sqO upd_same), pf (by first | rfl | assumption | exact ⟨_, rfl⟩ | exact ⟨_, by assumption⟩ | exact stO upd_same | exact sqO upd_same), ?_⟩ | refine ⟨_, _, _, pf (by first | rfl | assumption | exact ⟨_, rfl⟩ | exact ⟨_, by assumption⟩ | exact stO upd_same | exact sqO upd_same), pf (by first | rfl | assumption | exact ⟨_, rfl⟩ | exact ⟨_, by assumption⟩ | exact stO upd_same | exact sqO upd_same), pf (by first | rfl | assumption | exact ⟨_, rfl⟩ | exact ⟨_, by assumption⟩ | exact stO upd_same | exact sqO upd_same), ?_⟩ | refine ⟨_, _, _, pf (by first | rfl | assumption | exact ⟨_, rfl⟩ | exact ⟨_, by assumption⟩ | exact stO upd_same | exact sqO upd_same), pf (by first | rfl | assumption | exact ⟨_, rfl⟩ | exact ⟨_, by assumption⟩ | exact stO upd_same | exact sqO upd_same), ?_⟩ | refine ⟨_, _, pf (by first | rfl | assumption | exact ⟨_, rfl⟩ | exact ⟨_, by assumption⟩ | exact stO upd_same | exact sqO upd_same), pf (by first | rfl | assumption | exact ⟨_, rfl⟩ | exact ⟨_, by assumption⟩ | exact stO upd_same | exact sqO upd_same), pf (by first | rfl | assumption | exact ⟨_, rfl⟩ | exact ⟨_, by assumption⟩ | exact stO upd_same | exact sqO upd_same), ?_⟩ | refine ⟨_, _, _, _, pf (by first | rfl | assumption | exact ⟨_, rfl⟩ | exact ⟨_, by assumption⟩ | exact stO upd_same | exact sqO upd_same), pf (by first | rfl | assumption | exact ⟨_, rfl⟩ | exact ⟨_, by assumption⟩ | exact stO upd_same | exact sqO upd_same), pf (by first | rfl | assumption | exact ⟨_, rfl⟩ | exact ⟨_, by assumption⟩ | exact stO upd_same | exact sqO upd_same), ?_⟩ | refine ⟨_, _, _, _, pf (by first | rfl | assumption | exact ⟨_, rfl⟩ | exact ⟨_, by assumption⟩ | exact stO upd_same | exact sqO upd_same), pf (by first | rfl | assumption | exact ⟨_, rfl⟩ | exact ⟨_, by assumption⟩ | exact stO upd_same | exact sqO upd_same), pf (by first | rfl | assumption | exact ⟨_, rfl⟩ | exact ⟨_, by assumption⟩ | exact stO upd_same | exact sqO upd_same), pf (by first | rfl | assumption | exact ⟨_, rfl⟩ | exact ⟨_, by assumption⟩ | exact stO upd_same | exact sqO upd_same), ?_⟩ | refine ⟨pf (by first | rfl | assumption | exact ⟨_, rfl⟩ | exact ⟨_, by assumption⟩ | exact stO upd_same | exact sqO upd_same), ?_⟩)
    refine ite2 (fun h2 => ?_) (fun h2 => ?_)
    · rw [tx_len] at h2
      refine ⟨_, rfl, _, rfl, rz H (Same.refl H) (no ?_)⟩
      have : ¬ 3 ≤ l.length := by
        have := of_decide_eq_true h2
        omega
      unfold okLine
      rw [decide_eq_false this]
      simp
    rw [tx_len] at h2
    have q1 : 3 ≤ l.length := by
      have : ¬ (l.length : Int) < 3 := by simpa using h2
      omega
    repeat (first | refine ⟨_, pf (by first | rfl | assumption | exact ⟨_, rfl⟩ | exact ⟨_, by assumption⟩ | exact stO upd_same | exact sqO upd_same), ?_⟩ | refine ⟨_, _, pf (by first | rfl | assumption | exact ⟨_, rfl⟩ | exact ⟨_, by assumption⟩ | exact stO upd_same | exact sqO upd_same), ?_⟩ | refine ⟨_, _, pf (by first | rfl | assumption | exact ⟨_, rfl⟩ | exact ⟨_, by assumption⟩ | exact stO upd_same | exact sqO upd_same), pf (by first | rfl | assumption | exact ⟨_, rfl⟩ | exact ⟨_, by assumption⟩ | exact stO upd_same | exact sqO upd_same), ?_⟩ | refine ⟨_, pf (by first | rfl | assumption | exact ⟨_, rfl⟩ | exact ⟨_, by assumption⟩ | exact stO upd_same | exact sqO upd_same), pf (by first | rfl | assumption | exact ⟨_, rfl⟩ | exact ⟨_, by assumption⟩ | exact stO upd_same | exact sqO upd_same), ?_⟩ | refine ⟨_, _, _, pf (by first | rfl | assumption | exact ⟨_, rfl⟩ | exact ⟨_, by assumption⟩ | exact stO upd_same | exact sqO upd_same), pf (by first | rfl | assumption | exact ⟨_, rfl⟩ | exact ⟨_, by assumption⟩ | exact stO upd_same | exact sqO upd_same), pf (by first | rfl | assumption | exact ⟨_, rfl⟩ | exact ⟨_, by assumption⟩ | exact stO upd_same | exact sqO upd_same), pf (by first | rfl | assumption | exact ⟨_, rfl⟩ | exact ⟨_, by assumption⟩ | exact stO upd_same | exact sqO upd_same), ?_⟩ | refine ⟨_, _, _, pf (by first | rfl | assumption | exact ⟨_, rfl⟩ | exact ⟨_, by assumption⟩ | exact stO upd_same | exact sqO upd_same), pf (by first | rfl | assumption | exact ⟨_, rfl⟩ | exact ⟨_, by assumption⟩ | exact stO upd_same | exact sqO upd_same), pf (by first | rfl | assumption | exact ⟨_, rfl⟩ | exact ⟨_, by assumption⟩ | exact stO upd_same | exact sqO upd_same), ?_⟩ | refine ⟨_, _, _, pf (by first | rfl | assumption | exact ⟨_, rfl⟩ | exact ⟨_, by assumption⟩ | exact stO upd_same | exact sqO upd_same), pf (by first | rfl | assumption | exact ⟨_, rfl⟩ | exact ⟨_, by assumption⟩ | exact stO upd_same | exact sqO upd_same), ?_⟩ | refine ⟨_, _, pf (by first | rfl | assumption | exact ⟨_, rfl⟩ | exact ⟨_, by assumption⟩ | exact stO upd_same | exact sqO upd_same), pf (by first | rfl | assumption | exact ⟨_, rfl⟩ | exact ⟨_, by assumption⟩ | exact stO upd_same | exact sqO upd_same), pf (by first | rfl | assumption | exact ⟨_, rfl⟩ | exact ⟨_, by assumption⟩ | exact stO upd_same | exact sqO upd_same), ?_⟩ | refine ⟨_, _, _, _, pf (by first | rfl | assumption | exact ⟨_, rfl⟩ | exact ⟨_, by assumption⟩ | exact stO upd_same | exact sqO upd_same), pf (by first | rfl | assumption | exact ⟨_, rfl⟩ | exact ⟨_, by assumption⟩ | exact stO upd_same | exact sqO upd_same), pf (by first | rfl | assumption | exact ⟨_, rfl⟩ | exact ⟨_, by assumption⟩ | exact stO upd_same | exact sqO upd_same), ?_⟩ | refine ⟨_, _, _, _, pf (by first | rfl | assumption | exact ⟨_, rfl⟩ | exact ⟨_, by assumption⟩ | exact stO upd_same | exact sqO upd_same), pf (by first | rfl | assumption | exact ⟨_, rfl⟩ | exact ⟨_, by assumption⟩ | exact stO upd_same | exact sqO upd_same), pf (by first | rfl | assumption | exact ⟨_, rfl⟩ | exact ⟨_, by assumption⟩ | exact stO upd_same | exact sqO upd_same), pf (by first | rfl | assumption | exact ⟨_, rfl⟩ | exact ⟨_, by assumption⟩ | exact stO upd_same | exact sqO upd_same), ?_⟩ | refine ⟨pf (by first | rfl | assumption | exact ⟨_, rfl⟩ | exact ⟨_, by assumption⟩ | exact stO upd_same | exact sqO upd_same), ?_⟩)
    refine fun Dl nD => lc_map walk_str nD (fun i => .bl (isSig (l.getD i 0))) (by rw [tx_size]; omega) (fun _ _ => trivial) (fun _ _ _ _ _ y => by obtain ⟨rfl, _⟩ := y; exact Same.refl _) (fun x => rfl) (fun i x H1 H2 hi e y Q' q => ?_) (fun H1 e hD => ?_)
    · obtain ⟨rfl, c, hc, rfl⟩ := y_str y
      refine ⟨_, rfl, c, _, rfl, rfl, ?_⟩
      rw [mem_sig]
      have gi : l.getD i 0 = c := getD_some hc
      rw [gi] at q
      exact q _ (Same.refl _)
    have e2 : (List.range (tx l).cps.size).map (fun i => V.bl (isSig (l.getD i 0))) = (l.map isSig).map V.bl := by
      rw [tx_size, range_map l 0 fun c => V.bl (isSig c)]
      simp
    rw [e2] at hD
    refine ⟨Dl, _, rfl, sqO hD, _, rfl, ?_⟩
    have ea : (List.map isSig l).all id = l.all isSig := by rw [List.all_map]; rfl
    rw [ea]
    refine ite2 (fun h3 => ?_) (fun h3 => ?_)
    · refine ⟨_, rfl, _, rfl, rz H1 e (no ?_)⟩
      have : l.all isSig = false := by simpa using h3
      unfold okLine
      rw [this]
      simp
    have q2 : l.all isSig = true := by simpa using h3
    obtain ⟨c, hc⟩ : ∃ c, l[l.length - 3]? = some c := ⟨l[l.length - 3], by simp [show l.length - 3 < l.length by omega]⟩
    have ha : atI (tx l).cps.toList (-3) = some c := by rw [tx_list]; exact atI_neg (k := 3) (by decide) q1 hc
    have gd : l.getD (l.length - 3) 0 = c := getD_some hc
    have c0 : decide (V.str ⟨#[c]⟩ = V.str (Str.ofString " ")) = decide (c = 32) := (dec_tx [c] [32]).trans (by simp)
    repeat (first | refine ⟨_, pf (by first | rfl | assumption | exact ⟨_, rfl⟩ | exact ⟨_, by assumption⟩ | exact stO upd_same | exact sqO upd_same), ?_⟩ | refine ⟨_, _, pf (by first | rfl | assumption | exact ⟨_, rfl⟩ | exact ⟨_, by assumption⟩ | exact stO upd_same | exact sqO upd_same), ?_⟩ | refine ⟨_, _, pf (by first | rfl | assumption | exact ⟨_, rfl⟩ | exact ⟨_, by assumption⟩ | exact stO upd_same | exact sqO upd_same), pf (by first | rfl | assumption | exact ⟨_, rfl⟩ | exact ⟨_, by assumption⟩ | exact stO upd_same | exact sqO upd_same), ?_⟩ | refine ⟨_, pf (by first | rfl | assumption | exact ⟨_, rfl⟩ | exact ⟨_, by assumption⟩ | exact stO upd_same | exact sqO upd_same), pf (by first | rfl | assumption | exact ⟨_, rfl⟩ | exact ⟨_, by assumption⟩ | exact stO upd_same | exact sqO upd_same), ?_⟩ | refine ⟨_, _, _, pf (by first | rfl | assumption | exact ⟨_, rfl⟩ | exact ⟨_, by assumption⟩ | exact stO upd_same | exact sqO upd_same), pf (by first | rfl | assumption | exact ⟨_, rfl⟩ | exact ⟨_, by assumption⟩ | exact stO upd_same | exact sqO upd_same), pf (by first | rfl | assumption | exact ⟨_, rfl⟩ | exact ⟨_, by assumption⟩ | exact stO upd_same | exact sqO upd_same), pf (by first | rfl | assumption | exact ⟨_, rfl⟩ | exact ⟨_, by assumption⟩ | exact stO upd_same | exact sqO upd_same), ?_⟩ | refine ⟨_, _, _, pf (by first | rfl | assumption | exact ⟨_, rfl⟩ | exact ⟨_, by assumption⟩ | exact stO upd_same | exact sqO upd_same), pf (by first | rfl | assumption | exact ⟨_, rfl⟩ | exact ⟨_, by assumption⟩ | exact stO upd_same | exact sqO upd_same), pf (by first | rfl | assumption | exact ⟨_, rfl⟩ | exact ⟨_, by assumption⟩ | exact stO upd_same | exact sqO upd_same), ?_⟩ | refine ⟨_, _, _, pf (by first | rfl | assumption | exact ⟨_, rfl⟩ | exact ⟨_, by assumption⟩ | exact stO upd_same | exact sqO upd_same), pf (by first | rfl | assumption | exact ⟨_, rfl⟩ | exact ⟨_, by assumption⟩ | exact stO upd_same | exact sqO upd_same), ?_⟩ | refine ⟨_, _, pf (by first | rfl | assumption | exact ⟨_, rfl⟩ | exact ⟨_, by assumption⟩ | exact stO upd_same | exact sqO upd_same), pf (by first | rfl | assumption | exact ⟨_, rfl⟩ | exact ⟨_, by assumption⟩ | exact stO upd_same | exact sqO upd_same), pf (by first | rfl | assumption | exact ⟨_, rfl⟩ | exact ⟨_, by assumption⟩ | exact stO upd_same | exact sqO upd_same), ?_⟩ | refine ⟨_, _, _, _, pf (by first | rfl | assumption | exact ⟨_, rfl⟩ | exact ⟨_, by assumption⟩ | exact stO upd_same | exact sqO upd_same), pf (by first | rfl | assumption | exact ⟨_, rfl⟩ | exact ⟨_, by assumption⟩ | exact stO upd_same | exact sqO upd_same), pf (by first | rfl | assumption | exact ⟨_, rfl⟩ | exact ⟨_, by assumption⟩ | exact stO upd_same | exact sqO upd_same), ?_⟩ | refine ⟨_, _, _, _, pf (by first | rfl | assumption | exact ⟨_, rfl⟩ | exact ⟨_, by assumption⟩ | exact stO upd_same | exact sqO upd_same), pf (by first | rfl | assumption | exact ⟨_, rfl⟩ | exact ⟨_, by assumption⟩ | exact stO upd_same | exact sqO upd_same), pf (by first | rfl | assumption | exact ⟨_, rfl⟩ | exact ⟨_, by assumption⟩ | exact stO upd_same | exact sqO upd_same), pf (by first | rfl | assumption | exact ⟨_, rfl⟩ | exact ⟨_, by assumption⟩ | exact stO upd_same | exact sqO upd_same), ?_⟩ | refine ⟨pf (by first | rfl | assumption | exact ⟨_, rfl⟩ | exact ⟨_, by assumption⟩ | exact stO upd_same | exact sqO upd_same), ?_⟩)
    refine ite2 (fun h4 => ?_) (fun h4 => ?_)
    · rw [c0] at h4
      refine ⟨_, rfl, _, rfl, rz H1 e (no ?_)⟩
      have : c ≠ 32 := by simpa using h4
      unfold okLine
      rw [gd, decide_eq_false this]
      simp
    rw [c0] at h4
    have q3 : c = 32 := by simpa using h4
    have okl : ¬ okLine l = false := by
      unfold okLine
      rw [gd, q2, decide_eq_true q1, decide_eq_true q3]
      decide
    have ct : cutS (tx l) none (some (-3)) = tx (l.take (l.length - 3)) := cut_toN l 3 (by decide)
    have cf : cutS (tx l) (some (-2)) none = tx (l.drop (l.length - 2)) := cut_fromN l 2 (by decide)
    have tl : (l.take (l.length - 3)).length ≤ 1000 := by rw [List.length_take]; omega
    have tsig : (l.take (l.length - 3)).all isSig = true := List.all_eq_true.mpr fun c hc => List.all_eq_true.mp q2 c (List.mem_of_mem_take hc)
    have tcount : (l.take (l.length - 3)).count 40 ≤ 20 := Nat.le_trans (List.Sublist.count_le 40 (List.take_sublist _ _)) hf2.2
    have evE : evIn l = (if l.drop (l.length - 2) ≠ chk (l.take (l.length - 3)) then none else match runW [[]] (wordsIn (l.take (l.length - 3))) with
      | some [ds] => if lineE ds = l then some ds else none
      | _ => none) := if_neg okl
    generalize l.take (l.length - 3) = t at ct tl tsig tcount evE
    refine ⟨_, rfl, _, rfl, _, rfl, _, rfl, sz, ?_⟩
    rw [ct]
    refine ⟨_, rfl, t, rfl, tsig, by omega, fun H2 e2 => ?_⟩
    have e12 := e.trans e2
    refine ⟨_, rfl, _, rfl, _, rfl, _, rfl, sz, ?_⟩
    rw [cf]
    have fr : (figN t / 10).natAbs ≤ 999999999 ∧ (figN t % 10).natAbs ≤ 999999999 := by
      have a1 := figN_nn t
      have a2 := figN_lt t
      omega
    have n1 := num_len fr.1
    have n2 := num_len fr.2
    refine ⟨_, rfl, _, _, rfl, rfl, ⟨by decide, by decide⟩, .inr ⟨_, rfl, log_lt fr.1, ?_⟩⟩
    rw [num_tx]
    refine ⟨_, rfl, zz _ (by rw [tx_empty, tx_app, tx_len]; simp only [List.length_append, List.nil_append]; omega), ?_⟩
    refine ⟨_, rfl, _, _, rfl, rfl, (by decide : (0 : Int) < 10), .inr ⟨_, rfl, log_lt fr.2, ?_⟩⟩
    rw [num_tx]
    refine ⟨_, rfl, zz _ (by rw [tx_empty, tx_app, tx_app, tx_len]; simp only [List.length_append, List.nil_append]; omega), ?_⟩
    rw [tx_empty, tx_app, tx_app]
    have ec : [] ++ numL (figN t / 10) ++ numL (figN t % 10) = chk t := rfl
    rw [ec]
    have c1 : decide (V.str (tx (l.drop (l.length - 2))) = V.str (tx (chk t))) = decide (l.drop (l.length - 2) = chk t) := dec_tx _ _
    repeat (first | refine ⟨_, pf (by first | rfl | assumption | exact ⟨_, rfl⟩ | exact ⟨_, by assumption⟩ | exact stO upd_same | exact sqO upd_same), ?_⟩ | refine ⟨_, _, pf (by first | rfl | assumption | exact ⟨_, rfl⟩ | exact ⟨_, by assumption⟩ | exact stO upd_same | exact sqO upd_same), ?_⟩ | refine ⟨_, _, pf (by first | rfl | assumption | exact ⟨_, rfl⟩ | exact ⟨_, by assumption⟩ | exact stO upd_same | exact sqO upd_same), pf (by first | rfl | assumption | exact ⟨_, rfl⟩ | exact ⟨_, by assumption⟩ | exact stO upd_same | exact sqO upd_same), ?_⟩ | refine ⟨_, pf (by first | rfl | assumption | exact ⟨_, rfl⟩ | exact ⟨_, by assumption⟩ | exact stO upd_same | exact sqO upd_same), pf (by first | rfl | assumption | exact ⟨_, rfl⟩ | exact ⟨_, by assumption⟩ | exact stO upd_same | exact sqO upd_same), ?_⟩ | refine ⟨_, _, _, pf (by first | rfl | assumption | exact ⟨_, rfl⟩ | exact ⟨_, by assumption⟩ | exact stO upd_same | exact sqO upd_same), pf (by first | rfl | assumption | exact ⟨_, rfl⟩ | exact ⟨_, by assumption⟩ | exact stO upd_same | exact sqO upd_same), pf (by first | rfl | assumption | exact ⟨_, rfl⟩ | exact ⟨_, by assumption⟩ | exact stO upd_same | exact sqO upd_same), pf (by first | rfl | assumption | exact ⟨_, rfl⟩ | exact ⟨_, by assumption⟩ | exact stO upd_same | exact sqO upd_same), ?_⟩ | refine ⟨_, _, _, pf (by first | rfl | assumption | exact ⟨_, rfl⟩ | exact ⟨_, by assumption⟩ | exact stO upd_same | exact sqO upd_same), pf (by first | rfl | assumption | exact ⟨_, rfl⟩ | exact ⟨_, by assumption⟩ | exact stO upd_same | exact sqO upd_same), pf (by first | rfl | assumption | exact ⟨_, rfl⟩ | exact ⟨_, by assumption⟩ | exact stO upd_same | exact sqO upd_same), ?_⟩ | refine ⟨_, _, _, pf (by first | rfl | assumption | exact ⟨_, rfl⟩ | exact ⟨_, by assumption⟩ | exact stO upd_same | exact sqO upd_same), pf (by first | rfl | assumption | exact ⟨_, rfl⟩ | exact ⟨_, by assumption⟩ | exact stO upd_same | exact sqO upd_same), ?_⟩ | refine ⟨_, _, pf (by first | rfl | assumption | exact ⟨_, rfl⟩ | exact ⟨_, by assumption⟩ | exact stO upd_same | exact sqO upd_same), pf (by first | rfl | assumption | exact ⟨_, rfl⟩ | exact ⟨_, by assumption⟩ | exact stO upd_same | exact sqO upd_same), pf (by first | rfl | assumption | exact ⟨_, rfl⟩ | exact ⟨_, by assumption⟩ | exact stO upd_same | exact sqO upd_same), ?_⟩ | refine ⟨_, _, _, _, pf (by first | rfl | assumption | exact ⟨_, rfl⟩ | exact ⟨_, by assumption⟩ | exact stO upd_same | exact sqO upd_same), pf (by first | rfl | assumption | exact ⟨_, rfl⟩ | exact ⟨_, by assumption⟩ | exact stO upd_same | exact sqO upd_same), pf (by first | rfl | assumption | exact ⟨_, rfl⟩ | exact ⟨_, by assumption⟩ | exact stO upd_same | exact sqO upd_same), ?_⟩ | refine ⟨_, _, _, _, pf (by first | rfl | assumption | exact ⟨_, rfl⟩ | exact ⟨_, by assumption⟩ | exact stO upd_same | exact sqO upd_same), pf (by first | rfl | assumption | exact ⟨_, rfl⟩ | exact ⟨_, by assumption⟩ | exact stO upd_same | exact sqO upd_same), pf (by first | rfl | assumption | exact ⟨_, rfl⟩ | exact ⟨_, by assumption⟩ | exact stO upd_same | exact sqO upd_same), pf (by first | rfl | assumption | exact ⟨_, rfl⟩ | exact ⟨_, by assumption⟩ | exact stO upd_same | exact sqO upd_same), ?_⟩ | refine ⟨pf (by first | rfl | assumption | exact ⟨_, rfl⟩ | exact ⟨_, by assumption⟩ | exact stO upd_same | exact sqO upd_same), ?_⟩)
    refine ite2 (fun h5 => ?_) (fun h5 => ?_)
    · rw [c1] at h5
      refine ⟨_, rfl, _, rfl, rz H2 e12 ?_⟩
      rw [evE]
      exact if_pos (by simpa using h5)
    rw [c1] at h5
    have q4 : ¬ l.drop (l.length - 2) ≠ chk t := by simpa using h5
    rw [if_neg q4] at evE
    refine ⟨by decide, fun a0 na0 => ⟨(show 1 ≤ sizeLine by decide), fun R nR => ?_⟩⟩
    have e3 := e12.trans (same_new (o := .lst []) na0)
    have e4 := e3.trans (same_new (o := .lst [.ref a0]) nR)
    refine ⟨_, rfl, _, rfl, by omega, fun p G0 np eG hp => ?_⟩
    have e5 := e4.trans eG
    refine ⟨_, rfl, ⟨_, sqO hp⟩, ?_⟩
    have wl := words_ok t
    have hne : R ≠ a0 := fun q => by
      rw [q, upd_same] at nR
      cases nR
    have ga0 : G0 a0 = some (.lst []) := eG _ _ (by rw [upd_ne (fun q => hne q.symm), upd_same])
    have gR : G0 R = some (.lst [.ref a0]) := eG _ _ upd_same
    have npR : p ≠ R := fun q => by rw [q, upd_same] at np; cases np
    have npa : p ≠ a0 := fun q => by rw [q, upd_ne (fun q => hne q.symm), upd_same] at np; cases np
    have nH : H p = none ∧ H R = none ∧ H a0 = none := ⟨none_back e4 np, none_back e3 nR, none_back e12 na0⟩
    refine for_it (walk_list (xs := strsV (wordsIn t))) (fun i σ G => ∃ rs as, runW [[]] ((wordsIn t).take i) = some rs ∧ Same H G ∧ G p = some (.lst (strsV (wordsIn t))) ∧ G R = some (.lst (as.reverse.map V.ref)) ∧ Rws K G as rs ∧ as.Nodup ∧ (∀ a ∈ as, H a = none ∧ a ≠ R ∧ a ≠ p) ∧ ∃ b c d f, σ = [some (.str (tx l)), some (.str (tx t)), some (.int (figN t)), some (.ref R), b, c, d, f]) ?_ ?_ ?_ ?_
    · refine ⟨[[]], [a0], rfl, e5, hp, gR, ⟨⟨[], ga0, .nil⟩, trivial⟩, by simp, fun a ha => ?_, _, _, _, _, rfl⟩
      rw [List.mem_singleton.mp ha]
      exact ⟨nH.2.2, fun q => hne q.symm, fun q => npa q.symm⟩
    · rintro i σ G hi ⟨rs, as, _, _, hp, _⟩
      exact sqO hp
    · rintro i x σ G' G hi ⟨rs, as, hrun, eG, hp, hR, hrw, hnd, hal, b, c, d, f, rfl⟩ ⟨rfl, hx⟩
      obtain ⟨wd, hwd, rfl⟩ : ∃ wd, (wordsIn t)[i]? = some wd ∧ x = .str (tx wd) := by
        unfold strsV at hx
        rw [List.getElem?_map] at hx
        cases z : (wordsIn t)[i]? with
        | none => rw [z] at hx; cases hx
        | some wd => rw [z] at hx; cases hx; exact ⟨wd, rfl, rfl⟩
      have op : opens ((wordsIn t).take i) + 1 ≤ 22 := by
        have : opens ((wordsIn t).take i) ≤ opens (wordsIn t) := List.Sublist.countP_le (List.take_sublist _ _)
        omega
      obtain ⟨hok, hphi, hne0⟩ := run_ok (N := 22) ((wordsIn t).take i) [[]] rs hrun (List.cons_ne_nil _ _) ⟨(fun d hd => nomatch hd), trivial⟩ op
      have hphi2 : phi rs ≤ 30000 := by
        have : ((wordsIn t).take i).length ≤ (wordsIn t).length := List.length_take_le' _ _
        have e0 : phi [[]] = 2 := rfl
        omega
      have hdr := run_drawn _ _ _ hrun (fun r hr => by rw [List.mem_singleton.mp hr]; rfl)
      have hstuck := fun hs => run_stuck hrun hwd hs
      have htake := run_take hrun hwd
      have hzz : ∀ n : Nat, n ≤ 30000 → n < sizeLine := fun n h => Nat.lt_of_le_of_lt h (by decide)
      have none_of : step1 rs wd = none → evIn l = none := fun hs => by
        rw [evE, hstuck hs]
      cases rs with
      | nil => exact absurd rfl hne0
      | cons top rest =>
      cases as with
      | nil => exact hrw.elim
      | cons a ar =>
      have hlen := hrw.len
      have hrw0 := hrw
      obtain ⟨⟨xs, ha, hds⟩, hrest⟩ := hrw
      have hal0 := hal a List.mem_cons_self
      have phi1 : sumW top + 2 + phi rest ≤ 30000 := hphi2
      have phi3 : ∀ l : List (List PyData), 2 * l.length ≤ phi l := by
        intro l
        induction l with
        | nil => exact Nat.zero_le _
        | cons r l ih =>
          have : phi (r :: l) = sumW r + 2 + phi l := rfl
          rw [List.length_cons]
          omega
      have phi4 := phi3 rest
      have topl := len_sumW top
      have xsl : xs.length = top.length := hds.length
      rw [step1_cons] at htake none_of
      have nd := List.nodup_cons.mp hnd
      have w1 : decide (V.str (tx wd) = V.str (Str.ofString "(")) = decide (wd = [40]) := dec_tx wd [40]
      have w2 : decide (V.str (tx wd) = V.str (Str.ofString ")")) = decide (wd = [41]) := dec_tx wd [41]
      repeat (first | refine ⟨_, pf (by first | rfl | assumption | exact ⟨_, rfl⟩ | exact ⟨_, by assumption⟩ | exact stO upd_same | exact sqO upd_same), ?_⟩ | refine ⟨_, _, pf (by first | rfl | assumption | exact ⟨_, rfl⟩ | exact ⟨_, by assumption⟩ | exact stO upd_same | exact sqO upd_same), ?_⟩ | refine ⟨_, _, pf (by first | rfl | assumption | exact ⟨_, rfl⟩ | exact ⟨_, by assumption⟩ | exact stO upd_same | exact sqO upd_same), pf (by first | rfl | assumption | exact ⟨_, rfl⟩ | exact ⟨_, by assumption⟩ | exact stO upd_same | exact sqO upd_same), ?_⟩ | refine ⟨_, pf (by first | rfl | assumption | exact ⟨_, rfl⟩ | exact ⟨_, by assumption⟩ | exact stO upd_same | exact sqO upd_same), pf (by first | rfl | assumption | exact ⟨_, rfl⟩ | exact ⟨_, by assumption⟩ | exact stO upd_same | exact sqO upd_same), ?_⟩ | refine ⟨_, _, _, pf (by first | rfl | assumption | exact ⟨_, rfl⟩ | exact ⟨_, by assumption⟩ | exact stO upd_same | exact sqO upd_same), pf (by first | rfl | assumption | exact ⟨_, rfl⟩ | exact ⟨_, by assumption⟩ | exact stO upd_same | exact sqO upd_same), pf (by first | rfl | assumption | exact ⟨_, rfl⟩ | exact ⟨_, by assumption⟩ | exact stO upd_same | exact sqO upd_same), pf (by first | rfl | assumption | exact ⟨_, rfl⟩ | exact ⟨_, by assumption⟩ | exact stO upd_same | exact sqO upd_same), ?_⟩ | refine ⟨_, _, _, pf (by first | rfl | assumption | exact ⟨_, rfl⟩ | exact ⟨_, by assumption⟩ | exact stO upd_same | exact sqO upd_same), pf (by first | rfl | assumption | exact ⟨_, rfl⟩ | exact ⟨_, by assumption⟩ | exact stO upd_same | exact sqO upd_same), pf (by first | rfl | assumption | exact ⟨_, rfl⟩ | exact ⟨_, by assumption⟩ | exact stO upd_same | exact sqO upd_same), ?_⟩ | refine ⟨_, _, _, pf (by first | rfl | assumption | exact ⟨_, rfl⟩ | exact ⟨_, by assumption⟩ | exact stO upd_same | exact sqO upd_same), pf (by first | rfl | assumption | exact ⟨_, rfl⟩ | exact ⟨_, by assumption⟩ | exact stO upd_same | exact sqO upd_same), ?_⟩ | refine ⟨_, _, pf (by first | rfl | assumption | exact ⟨_, rfl⟩ | exact ⟨_, by assumption⟩ | exact stO upd_same | exact sqO upd_same), pf (by first | rfl | assumption | exact ⟨_, rfl⟩ | exact ⟨_, by assumption⟩ | exact stO upd_same | exact sqO upd_same), pf (by first | rfl | assumption | exact ⟨_, rfl⟩ | exact ⟨_, by assumption⟩ | exact stO upd_same | exact sqO upd_same), ?_⟩ | refine ⟨_, _, _, _, pf (by first | rfl | assumption | exact ⟨_, rfl⟩ | exact ⟨_, by assumption⟩ | exact stO upd_same | exact sqO upd_same), pf (by first | rfl | assumption | exact ⟨_, rfl⟩ | exact ⟨_, by assumption⟩ | exact stO upd_same | exact sqO upd_same), pf (by first | rfl | assumption | exact ⟨_, rfl⟩ | exact ⟨_, by assumption⟩ | exact stO upd_same | exact sqO upd_same), ?_⟩ | refine ⟨_, _, _, _, pf (by first | rfl | assumption | exact ⟨_, rfl⟩ | exact ⟨_, by assumption⟩ | exact stO upd_same | exact sqO upd_same), pf (by first | rfl | assumption | exact ⟨_, rfl⟩ | exact ⟨_, by assumption⟩ | exact stO upd_same | exact sqO upd_same), pf (by first | rfl | assumption | exact ⟨_, rfl⟩ | exact ⟨_, by assumption⟩ | exact stO upd_same | exact sqO upd_same), pf (by first | rfl | assumption | exact ⟨_, rfl⟩ | exact ⟨_, by assumption⟩ | exact stO upd_same | exact sqO upd_same), ?_⟩ | refine ⟨pf (by first | rfl | assumption | exact ⟨_, rfl⟩ | exact ⟨_, by assumption⟩ | exact stO upd_same | exact sqO upd_same), ?_⟩)
      refine ite2 (fun h6 => ?_) (fun h6 => ?_)
      · rw [w1] at h6
        have q6 := of_decide_eq_true h6
        rw [if_pos q6] at htake
        refine ⟨_, rfl, tyV_lst hR, by decide, fun a1 na1 => ⟨R, _, _, rfl, rfl, same_new na1 _ _ hR, ?_, ?_⟩⟩
        · refine hzz _ ?_
          rw [List.length_map, List.length_reverse, hlen, List.length_cons]
          omega
        have n1R : a1 ≠ R := fun q => by rw [q, hR] at na1; cases na1
        have n1p : a1 ≠ p := fun q => by rw [q, hp] at na1; cases na1
        have n1as : ∀ b ∈ a :: ar, b ≠ a1 := fun b hb q => by
          obtain ⟨ys, hy⟩ := Rws.some hrw0 b hb
          rw [q, na1] at hy
          cases hy
        have im : Imk G (upd (upd G a1 (.lst [])) R (.lst (((a :: ar).reverse.map V.ref) ++ [.ref a1]))) := (Imk.new na1).trans (Imk.put (same_new na1 _ _ hR) rfl)
        refine ⟨[] :: top :: rest, a1 :: a :: ar, htake, same_put (eG.trans (same_new na1)) nH.2.1, ?_, ?_, ⟨⟨[], ?_, .nil⟩, ?_⟩, ?_, ?_, _, _, _, _, rfl⟩
        · rw [upd_ne npR, upd_ne n1p.symm]
          exact hp
        · rw [upd_same, refs_cons a1]
        · rw [upd_ne n1R, upd_same]
        · refine Rws.keep im hrw0 (fun b hb => ?_) hdr
          rw [upd_ne (hal b hb).2.1, upd_ne (n1as b hb)]
        · exact List.nodup_cons.mpr ⟨fun q => n1as a1 q rfl, hnd⟩
        · intro b hb
          rcases List.mem_cons.mp hb with rfl | hb
          · exact ⟨none_back eG na1, n1R, n1p⟩
          · exact hal b hb
      rw [w1] at h6
      have q6 : ¬ wd = [40] := fun q => h6 (decide_eq_true q)
      rw [if_neg q6] at htake none_of
      repeat (first | refine ⟨_, pf (by first | rfl | assumption | exact ⟨_, rfl⟩ | exact ⟨_, by assumption⟩ | exact stO upd_same | exact sqO upd_same), ?_⟩ | refine ⟨_, _, pf (by first | rfl | assumption | exact ⟨_, rfl⟩ | exact ⟨_, by assumption⟩ | exact stO upd_same | exact sqO upd_same), ?_⟩ | refine ⟨_, _, pf (by first | rfl | assumption | exact ⟨_, rfl⟩ | exact ⟨_, by assumption⟩ | exact stO upd_same | exact sqO upd_same), pf (by first | rfl | assumption | exact ⟨_, rfl⟩ | exact ⟨_, by assumption⟩ | exact stO upd_same | exact sqO upd_same), ?_⟩ | refine ⟨_, pf (by first | rfl | assumption | exact ⟨_, rfl⟩ | exact ⟨_, by assumption⟩ | exact stO upd_same | exact sqO upd_same), pf (by first | rfl | assumption | exact ⟨_, rfl⟩ | exact ⟨_, by assumption⟩ | exact stO upd_same | exact sqO upd_same), ?_⟩ | refine ⟨_, _, _, pf (by first | rfl | assumption | exact ⟨_, rfl⟩ | exact ⟨_, by assumption⟩ | exact stO upd_same | exact sqO upd_same), pf (by first | rfl | assumption | exact ⟨_, rfl⟩ | exact ⟨_, by assumption⟩ | exact stO upd_same | exact sqO upd_same), pf (by first | rfl | assumption | exact ⟨_, rfl⟩ | exact ⟨_, by assumption⟩ | exact stO upd_same | exact sqO upd_same), pf (by first | rfl | assumption | exact ⟨_, rfl⟩ | exact ⟨_, by assumption⟩ | exact stO upd_same | exact sqO upd_same), ?_⟩ | refine ⟨_, _, _, pf (by first | rfl | assumption | exact ⟨_, rfl⟩ | exact ⟨_, by assumption⟩ | exact stO upd_same | exact sqO upd_same), pf (by first | rfl | assumption | exact ⟨_, rfl⟩ | exact ⟨_, by assumption⟩ | exact stO upd_same | exact sqO upd_same), pf (by first | rfl | assumption | exact ⟨_, rfl⟩ | exact ⟨_, by assumption⟩ | exact stO upd_same | exact sqO upd_same), ?_⟩ | refine ⟨_, _, _, pf (by first | rfl | assumption | exact ⟨_, rfl⟩ | exact ⟨_, by assumption⟩ | exact stO upd_same | exact sqO upd_same), pf (by first | rfl | assumption | exact ⟨_, rfl⟩ | exact ⟨_, by assumption⟩ | exact stO upd_same | exact sqO upd_same), ?_⟩ | refine ⟨_, _, pf (by first | rfl | assumption | exact ⟨_, rfl⟩ | exact ⟨_, by assumption⟩ | exact stO upd_same | exact sqO upd_same), pf (by first | rfl | assumption | exact ⟨_, rfl⟩ | exact ⟨_, by assumption⟩ | exact stO upd_same | exact sqO upd_same), pf (by first | rfl | assumption | exact ⟨_, rfl⟩ | exact ⟨_, by assumption⟩ | exact stO upd_same | exact sqO upd_same), ?_⟩ | refine ⟨_, _, _, _, pf (by first | rfl | assumption | exact ⟨_, rfl⟩ | exact ⟨_, by assumption⟩ | exact stO upd_same | exact sqO upd_same), pf (by first | rfl | assumption | exact ⟨_, rfl⟩ | exact ⟨_, by assumption⟩ | exact stO upd_same | exact sqO upd_same), pf (by first | rfl | assumption | exact ⟨_, rfl⟩ | exact ⟨_, by assumption⟩ | exact stO upd_same | exact sqO upd_same), ?_⟩ | refine ⟨_, _, _, _, pf (by first | rfl | assumption | exact ⟨_, rfl⟩ | exact ⟨_, by assumption⟩ | exact stO upd_same | exact sqO upd_same), pf (by first | rfl | assumption | exact ⟨_, rfl⟩ | exact ⟨_, by assumption⟩ | exact stO upd_same | exact sqO upd_same), pf (by first | rfl | assumption | exact ⟨_, rfl⟩ | exact ⟨_, by assumption⟩ | exact stO upd_same | exact sqO upd_same), pf (by first | rfl | assumption | exact ⟨_, rfl⟩ | exact ⟨_, by assumption⟩ | exact stO upd_same | exact sqO upd_same), ?_⟩ | refine ⟨pf (by first | rfl | assumption | exact ⟨_, rfl⟩ | exact ⟨_, by assumption⟩ | exact stO upd_same | exact sqO upd_same), ?_⟩)
      refine ite2 (fun h7 => ?_) (fun h7 => ?_)
      · rw [w2] at h7
        have q7 := of_decide_eq_true h7
        rw [if_pos q7] at htake none_of
        refine ⟨_, rfl, R, _, rfl, .inl (sqO hR), rfl, _, rfl, ?_⟩
        have le : decide (V.int (((a :: ar).reverse.map V.ref).length : Nat) = V.int 1) = decide (ar = []) := by
          rw [List.length_map, List.length_reverse, List.length_cons]
          cases ar with
          | nil => rfl
          | cons b ar =>
            rw [List.length_cons, decide_eq_false (List.cons_ne_nil b ar)]
            refine decide_eq_false (fun q => ?_)
            injection q with q
            omega
        refine ite2 (fun h8 => ?_) (fun h8 => ?_)
        · rw [le] at h8
          have q8 := of_decide_eq_true h8
          have er : rest = [] := by
            rw [q8] at hlen
            cases rest with
            | nil => rfl
            | cons r rest => simp at hlen
          rw [er] at none_of
          exact ⟨_, rfl, _, rfl, rz G eG (none_of rfl)⟩
        · rw [le] at h8
          cases ar with
          | nil => exact absurd rfl h8
          | cons b ar =>
          cases rest with
          | nil => exact hrest.elim
          | cons r rest =>
          obtain ⟨⟨ys, hb, hys⟩, hrest⟩ := hrest
          have hbl := hal b (List.mem_cons_of_mem _ List.mem_cons_self)
          have nab : b ≠ a := fun q => nd.1 (by rw [q]; exact List.mem_cons_self)
          have nd2 := List.nodup_cons.mp nd.2
          have bl := len_sumW r
          have ybl : ys.length = r.length := hys.length
          have phi5 : sumW top + 2 + (sumW r + 2 + phi rest) ≤ 30000 := phi1
          rw [refs_cons] at hR
          refine ⟨_, rfl, tyV_lst hR, R, _, .ref a, rfl, rfl, hR, last_app _ _, ?_⟩
          rw [List.dropLast_concat]
          refine ⟨a, xs, rfl, .inl ⟨sqO (by rw [upd_ne hal0.2.1]; exact ha), fun tp ntp => ?_⟩⟩
          have ntR : tp ≠ R := fun q => by rw [q, upd_same] at ntp; cases ntp
          have ntG : G tp = none := by rw [upd_ne ntR] at ntp; exact ntp
          have ntp2 : tp ≠ p := fun q => by rw [q, hp] at ntG; cases ntG
          have nta : tp ≠ a := fun q => by rw [q, ha] at ntG; cases ntG
          have ntb : tp ≠ b := fun q => by rw [q, hb] at ntG; cases ntG
          have g3R : upd (upd G R (.lst ((b :: ar).reverse.map V.ref))) tp (.tup xs) R = some (.lst (ar.reverse.map V.ref ++ [.ref b])) := by
            rw [upd_ne ntR.symm, upd_same, refs_cons]
          have g3b : upd (upd G R (.lst ((b :: ar).reverse.map V.ref))) tp (.tup xs) b = some (.lst ys) := by
            rw [upd_ne ntb.symm, upd_ne hbl.2.1]
            exact hb
          refine ⟨_, rfl, _, rfl, R, _, _, .ref b, rfl, rfl, sqO g3R, atI_last _ _, tyV_lst g3b, _, rfl, b, ys, _, rfl, rfl, g3b, hzz _ (by omega), ?_⟩
          have im : Imk G (upd (upd (upd G R (.lst ((b :: ar).reverse.map V.ref))) tp (.tup xs)) b (.lst (ys ++ [.ref tp]))) := ((Imk.put hR rfl).trans (Imk.new ntp)).trans (Imk.put g3b rfl)
          have sm : Same H (upd (upd (upd G R (.lst ((b :: ar).reverse.map V.ref))) tp (.tup xs)) b (.lst (ys ++ [.ref tp]))) := same_put ((same_put eG nH.2.1).trans (same_new ntp)) hbl.1
          refine ⟨_, b :: ar, htake, sm, ?_, ?_, ⟨⟨_, upd_same, ?_⟩, ?_⟩, nd.2, fun c hc => hal c (List.mem_cons_of_mem _ hc), _, _, _, _, rfl⟩
          · rw [upd_ne hbl.2.2.symm, upd_ne ntp2.symm, upd_ne npR]
            exact hp
          · rw [upd_ne hbl.2.1.symm, g3R, refs_cons]
          · refine DpAll.snoc ?_ (DpAll.keep im _ _ (frozen_drawnAll _ (hdr r (List.mem_cons_of_mem _ List.mem_cons_self))) hys)
            refine .tup (stO (by rw [upd_ne ntb, upd_same])) (DpAll.keep im _ _ (frozen_drawnAll _ (hdr top List.mem_cons_self)) hds)
          · refine Rws.keep im hrest (fun c hc => ?_) (fun q hq => hdr q (List.mem_cons_of_mem _ (List.mem_cons_of_mem _ hq)))
            have hcl := hal c (List.mem_cons_of_mem _ (List.mem_cons_of_mem _ hc))
            have ncb : c ≠ b := fun q => nd2.1 (by rw [← q]; exact hc)
            have nct : c ≠ tp := fun q => by
              obtain ⟨zs, hz⟩ := Rws.some hrest c hc
              rw [q, ntG] at hz
              cases hz
            rw [upd_ne ncb, upd_ne nct, upd_ne hcl.2.1]
      rw [w2] at h7
      have q7 : ¬ wd = [41] := fun q => h7 (decide_eq_true q)
      rw [if_neg q7] at htake none_of
      have wlen : wd.length ≤ 100000 := by
        have := words_len (List.mem_of_getElem? hwd)
        omega
      refine ⟨_, rfl, wd, rfl, wlen, fun G2 e2 => ?_⟩
      cases hpt : partIn wd with
      | none =>
        rw [hpt] at none_of
        refine ⟨_, rfl, rfl, _, rfl, ?_⟩
        refine if_t rfl ?_
        exact ⟨_, rfl, _, rfl, rz G2 (eG.trans e2) (none_of rfl)⟩
      | some pt =>
        rw [hpt] at htake
        obtain ⟨v, hv, hvn, hvv⟩ := dp_part (K := K) (G := upd G2 a (.lst (xs ++ [valP (some pt)]))) hpt
        have ev : valP (some pt) = v := by
          rcases hvv with ⟨z, rfl, rfl⟩ | ⟨z, rfl, rfl⟩ <;> rfl
        rw [ev] at hv ⊢
        refine ⟨_, rfl, rfl, _, rfl, ?_⟩
        refine if_f (decide_eq_false hvn) ?_
        rw [refs_cons] at hR
        have hR2 := e2 _ _ hR
        have ha2 := e2 _ _ ha
        refine ⟨_, rfl, _, rfl, R, _, _, .ref a, rfl, rfl, sqO hR2, atI_last _ _, tyV_lst ha2, _, rfl, a, xs, _, rfl, rfl, ha2, hzz _ (by omega), ?_⟩
        have im : Imk G (upd G2 a (.lst (xs ++ [v]))) := e2.kt.trans (Imk.put ha2 rfl)
        refine ⟨_, a :: ar, htake, same_put (eG.trans e2) hal0.1, ?_, ?_, ⟨⟨_, upd_same, ?_⟩, ?_⟩, hnd, hal, _, _, _, _, rfl⟩
        · rw [upd_ne hal0.2.2.symm]
          exact e2 _ _ hp
        · rw [upd_ne hal0.2.1.symm, hR2, refs_cons]
        · exact DpAll.snoc hv (DpAll.keep im _ _ (frozen_drawnAll _ (hdr top List.mem_cons_self)) hds)
        · refine Rws.keep im hrest (fun c hc => ?_) (fun q hq => hdr q (List.mem_cons_of_mem _ hq))
          have nca : c ≠ a := fun q => nd.1 (by rw [← q]; exact hc)
          obtain ⟨zs, hz⟩ := Rws.some hrest c hc
          rw [upd_ne nca, e2 _ _ hz, hz]
    · rintro σ G ⟨rs, as, hrun, eG, hp, hR, hrw, hnd, hal, b, c, d, f, rfl⟩
      have lst : (strsV (wordsIn t)).length = (wordsIn t).length := by unfold strsV; rw [List.length_map]
      rw [lst, List.take_length] at hrun
      rw [hrun] at evE
      obtain ⟨hok, hphi, hne0⟩ := run_ok (N := 22) (wordsIn t) [[]] rs hrun (List.cons_ne_nil _ _) ⟨(fun d hd => nomatch hd), trivial⟩ (by show opens (wordsIn t) + 1 ≤ 22; omega)
      have hdr := run_drawn _ _ _ hrun (fun r hr => by rw [List.mem_singleton.mp hr]; rfl)
      have hlen := hrw.len
      refine ⟨_, rfl, R, _, rfl, .inl (sqO hR), rfl, _, rfl, ?_⟩
      have le : decide (V.int ((as.reverse.map V.ref).length : Nat) = V.int 1) = decide (rs.length = 1) := by
        rw [List.length_map, List.length_reverse, hlen]
        by_cases z : rs.length = 1
        · rw [z]
          rfl
        · rw [decide_eq_false z]
          refine decide_eq_false (fun q => z ?_)
          injection q with q
          omega
      refine ite2 (fun h8 => ?_) (fun h8 => ?_)
      · rw [le] at h8
        have z : rs.length ≠ 1 := by simpa using h8
        refine ⟨_, rfl, _, rfl, rz G eG ?_⟩
        rw [evE]
        cases rs with
        | nil => rfl
        | cons r rs =>
          cases rs with
          | nil => exact absurd rfl z
          | cons r2 rs => rfl
      rw [le] at h8
      have z : rs.length = 1 := by simpa using h8
      obtain ⟨ds, rfl⟩ : ∃ ds, rs = [ds] := by
        cases rs with
        | nil => cases z
        | cons r rs =>
          cases rs with
          | nil => exact ⟨r, rfl⟩
          | cons r2 rs => simp at z
      obtain ⟨a, rfl⟩ : ∃ a, as = [a] := by
        cases as with
        | nil => cases hlen
        | cons r rs =>
          cases rs with
          | nil => exact ⟨r, rfl⟩
          | cons r2 rs => simp at hlen
      obtain ⟨⟨xs, ha, hds⟩, _⟩ := hrw
      have hphi2 : sumW ds + 2 + 0 ≤ 2 + 13 * (wordsIn t).length := hphi
      have jl := join_len ds
      have r0 : atI ([V.ref a]) 0 = some (.ref a) := rfl
      refine ⟨_, rfl, R, _, _, .ref a, rfl, rfl, sqO hR, r0, a, xs, rfl, .inl ⟨sqO ha, fun tp ntp => ?_⟩⟩
      have est := same_new (o := .tup xs) ntp
      refine ⟨_, ds, rfl, .tup (stO upd_same) (DpAll.mono est _ _ hds), fun d hd => hok.1 d hd, hdr ds List.mem_cons_self, ?_, fun G2 e2 => ?_⟩
      · unfold textE
        omega
      have e3 := est.trans e2
      refine ⟨_, rfl, rfl, _, rfl, ?_⟩
      have c2 : decide (V.str (tx (lineE ds)) = V.str (tx l)) = decide (lineE ds = l) := dec_tx _ _
      have eE2 : evIn l = if lineE ds = l then some ds else none := evE
      refine ite2 (fun h9 => ?_) (fun h9 => ?_)
      · rw [c2] at h9
        have z : lineE ds ≠ l := by simpa using h9
        rw [if_neg z] at eE2
        exact ⟨_, rfl, _, rfl, rz G2 (eG.trans e3) eE2⟩
      rw [c2] at h9
      have z : lineE ds = l := by simpa using h9
      rw [if_pos z] at eE2
      refine ⟨_, rfl, R, _, _, .ref a, rfl, rfl, sqO (e3 _ _ hR), r0, a, xs, rfl, .inl ⟨sqO (e3 _ _ ha), fun t2 nt2 => ?_⟩⟩
      have es2 := same_new (o := .tup xs) nt2
      exact k ds eE2 _ _ ((eG.trans e3).trans es2) (.tup (stO upd_same) (DpAll.mono (e3.trans es2) _ _ hds))
end
end LW
set_option Elab.async false
set_option linter.all false
set_option maxRecDepth 100000
set_option maxHeartbeats 4000000
/-! What draws leave standing; comprehensions whose elements are drawn. -/
namespace LW
open PySem L2
/-- all that was tracked stands, but at r -/
def SameBut (r : Addr) (H H' : Hp) : Prop := ∀ b o, b ≠ r → H b = some o → H' b = some o
theorem SameBut.refl {r : Addr} {H : Hp} : SameBut r H H := fun _ _ _ h => h
theorem SameBut.trans {r : Addr} {H G J : Hp} (e : SameBut r H G) (f : SameBut r G J) : SameBut r H J := fun b o n h => f b o n (e b o n h)
theorem but_same {r : Addr} {H G : Hp} (e : Same H G) : SameBut r H G := fun b o _ h => e b o h
theorem but_put {r : Addr} {H : Hp} {o : HO} : SameBut r H (upd H r o) := fun b u n h => by rw [upd_ne n]; exact h
theorem But.sb {r : Addr} {H G : Hp} (e : But r H G) : SameBut r H G := fun b o n h => (e b n).trans h
theorem sb_put {r p : Addr} {H G : Hp} {o : HO} (e : SameBut r H G) (n : H p = none) : SameBut r H (upd G p o) := fun b u nb h => by
  rw [upd_ne (ne_of_none h n)]
  exact e b u nb h
theorem SameBut.imk {K : PySem.W.Frag} {a r : Addr} {H G : Hp} (e : SameBut r H G) (R : RowI K a r H) : Imk H G := fun b o i h => by
  obtain ⟨xs, hx⟩ := R.some
  refine e b o (fun z => ?_) h
  rw [z, hx] at h
  cases h
  cases i
theorem none_backR {K : PySem.W.Frag} {a r p : Addr} {H G : Hp} (e : SameBut r H G) (R : RowI K a r G) (n : G p = none) : H p = none := by
  obtain ⟨xs, hx⟩ := R.some
  cases z : H p with
  | none => rfl
  | some o =>
    have np : p ≠ r := fun q => by rw [q, hx] at n; cases n
    rw [e p o np z] at n
    cases n
theorem row_put {K : PySem.W.Frag} {a r D : Addr} {H1 H : Hp} {o : HO} (R1 : RowI K a r H1) (R : RowI K a r H) (n : H1 D = none) (nDr : D ≠ r) (e : SameBut r H1 H) : RowI K a r (upd H D o) := by
  obtain ⟨i, s, c, h1, h2, h3, ns, h4⟩ := R
  obtain ⟨i', s', c', g1, _, _, ms, g4⟩ := R1
  refine ⟨i, s, c, by rw [upd_ne nDr.symm]; exact h1, h2, h3, ms, ?_⟩
  rcases g4 with (g | ⟨o', g⟩) | g
  · have na : a ≠ D := fun q => by rw [q, n] at g; cases g
    have nar : a ≠ r := fun q => by
      rw [q, g1] at g
      cases ms with
      | nil => cases g
      | cons m ms => cases g
    exact .inl (.inl (by rw [upd_ne na]; exact e _ _ nar g))
  · have na : a ≠ D := fun q => by rw [q, n] at g; cases g
    have nar : a ≠ r := fun q => by rw [q, g1] at g; cases g
    exact .inl (.inr ⟨o', by rw [upd_ne na]; exact e _ _ nar g⟩)
  · exact .inr g
theorem use_taken {K : PySem.W.Frag} {a r : Addr} {m : Int} {H : Hp} {Q : VK} (R : RowI K a r H) (h1 : 0 < m) (h2 : m < 1073741824) (k : ∀ (i : Int) H', 0 ≤ i → i < m → SameBut r H H' → RowI K a r H' → Q (.int i) H') : spTaken K [.ref r, .int m] H Q E0 :=
  ⟨a, r, m, rfl, R, h1, h2, fun i H' g1 g2 b R' => k i H' g1 g2 b.sb R'⟩
theorem use_pick {K : PySem.W.Frag} {a r p : Addr} {xs : List V} {H : Hp} {Q : VK} (R : RowI K a r H) (hp : H p = some (.lst xs)) (hpr : p ≠ r) (h1 : 0 < xs.length) (h2 : xs.length < 1073741824) (k : ∀ v H', v ∈ xs → SameBut r H H' → RowI K a r H' → Q v H') : spPick K [.ref r, .ref p] H Q E0 :=
  ⟨a, r, p, xs, rfl, R, hp, hpr, h1, h2, fun v H' hv b R' => k v H' hv b.sb R'⟩
section
variable {K : PySem.W.Frag} {J : It} {n : Nat} {G : Hp → Prop} {Y : Nat → Hp → V → Hp → Prop}
/-- a comprehension whose elements are drawn: data of which P i holds -/
theorem lc_row {a r : Addr} (w : Walk J n G Y) {k : Nat} {te : TE} {vs : List Nat} {σ : L2.St} {H1 : Hp} {D : Addr} {Qd : Hp → Prop} (R1 : RowI K a r H1) (nD : H1 D = none) (Pd : Nat → PyData → Prop) (hfz : ∀ i d, Pd i d → frozen d = true) (hn : n ≤ 1000000)
    (hG : ∀ H, SameBut r H1 H → RowI K a r H → G H) (hY : ∀ i H x H', i < n → Y i H x H' → H' = H) (hw : ∀ x, wipe ((wipe σ vs).set k (some x)) vs = wipe σ vs)
    (hs : ∀ i x H, i < n → SameBut r H1 H → RowI K a r H → Y i H x H → ∀ Q' : VK, (∀ v d H'', SameBut r H H'' → RowI K a r H'' → Dp K H'' v d → Pd i d → Q' v H'') → te ((wipe σ vs).set k (some x)) H Q')
    (hd : ∀ H xs ds, SameBut r H1 H → RowI K a r H → H D = some (.lst xs) → DpAll K H xs ds → ds.length = n → (∀ i d, ds[i]? = some d → Pd i d) → Qd H) :
    ∃ W : Nat → Nat → Hp → Prop, (∃ m, W 0 m (upd H1 D (.lst []))) ∧ ∀ i m H, W i m H →
      (J.stop i H ∧ Qd H) ∨ (J.go i H ∧ ∃ Nx : Hp → Prop, (∀ H', Nx H' → ∃ m', m' < m ∧ W (i + 1) m' H') ∧ ∀ x H', J.yld i H x H' → gName k x (wipe σ vs) H' fun σ2 H2 => wipe σ2 vs = wipe σ vs ∧ tYes σ2 H2 fun b H3 =>
        if b = true then te σ2 H3 fun y H4 => ∃ acc, H4 D = some (.lst acc) ∧ acc.length < sizeLine ∧ Nx (upd H4 D (.lst (acc ++ [y]))) else Nx H3) := by
  have nDr : D ≠ r := fun q => by
    obtain ⟨xs, hx⟩ := R1.some
    rw [q, hx] at nD
    cases nD
  refine lc_it w (fun i H => i ≤ n ∧ SameBut r H1 H ∧ RowI K a r H ∧ ∃ xs ds, H D = some (.lst xs) ∧ DpAll K H xs ds ∧ ds.length = i ∧ ∀ j d, ds[j]? = some d → Pd j d) ⟨Nat.zero_le _, but_same (same_new nD), R1.same (same_new nD), [], [], upd_same, .nil, rfl, fun j d h => nomatch h⟩ (fun i H _ h => hG H h.2.1 h.2.2.1) (fun i x H H' hi ⟨_, e, R, xs, ds, hD, hv, hl, hP⟩ y => ?_) (fun H ⟨_, e, R, xs, ds, hD, hv, hl, hP⟩ => hd H xs ds e R hD hv hl hP)
  refine ⟨hw x, ?_⟩
  obtain rfl := hY i H x H' hi y
  refine hs i x H' hi e R y _ fun v d H'' e2 R2 hvd hPd => ?_
  have hD3 := e2 _ _ nDr hD
  have im : Imk H'' (upd H'' D (.lst (xs ++ [v]))) := Imk.put hD3 rfl
  refine ⟨_, hD3, ?_, hi, sb_put (e.trans e2) nD, row_put R1 R2 nD nDr (e.trans e2), _, ds ++ [d], upd_same, ?_, ?_, ?_⟩
  · rw [hv.length, hl]
    exact Nat.lt_of_lt_of_le hi (Nat.le_trans hn (by decide))
  · refine DpAll.snoc (Dp.keep im _ _ (hfz i d hPd) hvd) (DpAll.keep ((e2.imk R).trans im) _ _ ?_ hv)
    exact frozenAll_of fun d' hd' => by
      obtain ⟨j, hj, hj2⟩ := List.mem_iff_getElem.mp hd'
      exact hfz j d' (hP j d' (by rw [← hj2]; simp [hj]))
  · rw [List.length_append, hl]
    rfl
  · intro j d' hj
    by_cases h : j < ds.length
    · rw [List.getElem?_append_left h] at hj
      exact hP j d' hj
    · have hje : j = ds.length := by
        have := (List.getElem?_eq_some_iff.mp hj).1
        simp only [List.length_append, List.length_singleton] at this
        omega
      rw [hje] at hj ⊢
      simp at hj
      rw [← hj, hl]
      exact hPd
/-- the same with any word El on the elements that new tuples and draws leave standing -/
theorem lc_el {a r : Addr} (w : Walk J n G Y) {k : Nat} {te : TE} {vs : List Nat} {σ : L2.St} {H1 : Hp} {D : Addr} {Qd : Hp → Prop} (R1 : RowI K a r H1) (nD : H1 D = none) (El : Nat → Hp → V → Prop) (hmono : ∀ i H H' v, Imk H H' → El i H v → El i H' v) (hn : n ≤ 1000000)
    (hG : ∀ H, SameBut r H1 H → RowI K a r H → G H) (hY : ∀ i H x H', i < n → Y i H x H' → H' = H) (hw : ∀ x, wipe ((wipe σ vs).set k (some x)) vs = wipe σ vs)
    (hs : ∀ i x H, i < n → SameBut r H1 H → RowI K a r H → Y i H x H → ∀ Q' : VK, (∀ v H'', SameBut r H H'' → RowI K a r H'' → El i H'' v → Q' v H'') → te ((wipe σ vs).set k (some x)) H Q')
    (hd : ∀ H xs, SameBut r H1 H → RowI K a r H → H D = some (.lst xs) → xs.length = n → (∀ i v, xs[i]? = some v → El i H v) → Qd H) :
    ∃ W : Nat → Nat → Hp → Prop, (∃ m, W 0 m (upd H1 D (.lst []))) ∧ ∀ i m H, W i m H →
      (J.stop i H ∧ Qd H) ∨ (J.go i H ∧ ∃ Nx : Hp → Prop, (∀ H', Nx H' → ∃ m', m' < m ∧ W (i + 1) m' H') ∧ ∀ x H', J.yld i H x H' → gName k x (wipe σ vs) H' fun σ2 H2 => wipe σ2 vs = wipe σ vs ∧ tYes σ2 H2 fun b H3 =>
        if b = true then te σ2 H3 fun y H4 => ∃ acc, H4 D = some (.lst acc) ∧ acc.length < sizeLine ∧ Nx (upd H4 D (.lst (acc ++ [y]))) else Nx H3) := by
  have nDr : D ≠ r := fun q => by
    obtain ⟨xs, hx⟩ := R1.some
    rw [q, hx] at nD
    cases nD
  refine lc_it w (fun i H => i ≤ n ∧ SameBut r H1 H ∧ RowI K a r H ∧ ∃ xs, H D = some (.lst xs) ∧ xs.length = i ∧ ∀ j v, xs[j]? = some v → El j H v) ⟨Nat.zero_le _, but_same (same_new nD), R1.same (same_new nD), [], upd_same, rfl, fun j d h => nomatch h⟩ (fun i H _ h => hG H h.2.1 h.2.2.1) (fun i x H H' hi ⟨_, e, R, xs, hD, hl, hP⟩ y => ?_) (fun H ⟨_, e, R, xs, hD, hl, hP⟩ => hd H xs e R hD hl hP)
  refine ⟨hw x, ?_⟩
  obtain rfl := hY i H x H' hi y
  refine hs i x H' hi e R y _ fun v H'' e2 R2 hPd => ?_
  have hD3 := e2 _ _ nDr hD
  have im : Imk H'' (upd H'' D (.lst (xs ++ [v]))) := Imk.put hD3 rfl
  refine ⟨_, hD3, ?_, hi, sb_put (e.trans e2) nD, row_put R1 R2 nD nDr (e.trans e2), _, upd_same, ?_, ?_⟩
  · rw [hl]
    exact Nat.lt_of_lt_of_le hi (Nat.le_trans hn (by decide))
  · rw [List.length_append, hl]
    rfl
  · intro j d' hj
    by_cases h : j < xs.length
    · rw [List.getElem?_append_left h] at hj
      exact hmono j _ _ _ ((e2.imk R).trans im) (hP j d' hj)
    · have hje : j = xs.length := by
        have := (List.getElem?_eq_some_iff.mp hj).1
        simp only [List.length_append, List.length_singleton] at this
        omega
      rw [hje] at hj ⊢
      simp at hj
      rw [← hj, hl]
      exact hmono i _ _ _ im hPd
end
end LW
set_option Elab.async false
set_option linter.all false
set_option maxRecDepth 100000
set_option maxHeartbeats 8000000
/-! k11: the class Archive. -/
namespace LW
open PySem L2
section
variable {P : Program} {w : World} {K : PySem.W.Frag} {mg : Str → Option Value} {base : Heap} {F : Nat → Addr} {D : Nat → FuncData} {C : Nat → Addr}
def arcAt (K : PySem.W.Frag) (C2 : Addr) (H : Hp) (a : Addr) (ls : List (List Nat)) : Prop := ∃ dx t, H a = some (.ins C2 dx [("lines", .ref t)]) ∧ SqT K H t (strsV ls) ∧ Lines ls
theorem arcAt.mono {C2 : Addr} {H H' : Hp} {a : Addr} {ls : List (List Nat)} (e : Same H H') (h : arcAt K C2 H a ls) : arcAt K C2 H' a ls := by
  obtain ⟨dx, t, h1, h2, h3⟩ := h
  exact ⟨dx, t, e _ _ h1, e.sqt h2, h3⟩
def sp_init (K : PySem.W.Frag) (C1 C2 : Addr) : Sp := fun vs H Q E => ∃ a dx p ls, vs = [.ref a, .ref p] ∧ H a = some (.ins C2 dx []) ∧ (SqL K H p (strsV ls) ∨ SqT K H p (strsV ls)) ∧ (∀ l ∈ ls, goodL l) ∧ ls.length ≤ 1000 ∧
  (ls.length ≤ 400 → ∀ H' t, SameBut a H H' → H' a = some (.ins C2 dx [("lines", .ref t)]) → SqT K H' t (strsV ls) → Q .non H') ∧
  (¬ ls.length ≤ 400 → ∀ q H', Same H H' → H q = none → H' q = some (.xd [("limit", .int 400)]) → E (.ref C1) (some q) H')
theorem sc_Archive___init__ : FnScope ["self", "lines", "found", "line"] ["self", "lines"] (defScope s_Archive___init__) := ⟨rfl, rfl, rfl, by decide +kernel, rfl, by decide +kernel, by decide +kernel⟩
theorem ok_init (T : Txt P K mg F D C) : FnOk P w K mg base (L2.CX P w) 27 (F 12) (D 12) ["self", "lines"] (sp_init K (C 1) (C 2)) := by
  have G_event_in := ok_event_in (P := P) (w := w) (base := base) T
  refine T.u_Archive___init__.ok sc_Archive___init__ (fun vs H Q E h => ?_) (fun cdv A outer s H vs Q E hr h => ?_)
  · obtain ⟨a, dx, p, ls, rfl, _⟩ := h
    rfl
  · obtain ⟨a, dx, p, ls, rfl, ha, hsq, hg, hl, k, ke⟩ := h
    refine ⟨_, (pss_cons (ps_set (i := 2) sc_Archive___init__.nd rfl (.inl rfl) (pe_lst pa_nil))
      (pss_cons (ps_for (passes_of rfl) rfl (pi_or (pi_list (pv 1)) (pi_tup (pv 1))) (pg_name (i := 3) sc_Archive___init__.nd rfl (.inl rfl))
        (pss_cons (ps_expr (pe_call G_event_in (hr.mono (by omega)) (by rfl) T.g_event_in T.u_event_in.kp T.b_event_in .nil passL (pa_cons (pv 3) pa_nil)))
        (pss_one (ps_expr (pe_bm PySem.F.plainAttrs_list PySem.F.slot_list_append PySem.F.type_list_append mt_append (pv 2) (pa_cons (pv 3) pa_nil))))))
      (pss_cons (ps_if (pt_cmpR op_gt (pe_callB (r := rLenQ K) cq_len (by rfl) T.z_len (by decide +kernel) (pa_cons (pv 2) pa_nil)) (pe_glob (v := .int 400) (by rfl) T.s_MOST_LINES.choose_spec ⟨_, rfl⟩) (nomark _)) (pss_one (ps_raiseErr rfl T.e_TooMany hr (takes_of rfl rfl rfl rfl) (by exact (pa_cons (pe_glob (v := .int 400) (by rfl) T.s_MOST_LINES.choose_spec ⟨_, rfl⟩) pa_nil))))
        pss_nil)
      (pss_one (ps_fld (pv 0) (pe_callTy (r := rTupQ K) cq_tup (by rfl) T.z_tuple (by decide +kernel) (pa_cons (pv 2) pa_nil)) rfl))))), ?_⟩
    refine ⟨by decide, fun f nf => ?_⟩
    have e1 := same_new (o := .lst []) nf
    have nfa : f ≠ a := fun q => by rw [q, ha] at nf; cases nf
    have zz : ∀ n : Nat, n ≤ 1000 → n < sizeLine := fun n h => Nat.lt_of_le_of_lt h (by decide)
    have hit : ∀ i, (strsV ls)[i]? = (ls[i]?).map fun l => V.str (tx l) := fun i => by unfold strsV; rw [List.getElem?_map]
    have hls : (strsV ls).length = ls.length := by unfold strsV; rw [List.length_map]
    rcases hsq with hsq | hsq
    · refine .inl ⟨_, rfl, p, rfl, ⟨_, e1.seq hsq⟩, ?_⟩
      refine for_it (walk_list (xs := strsV ls)) (fun i σ G => Same H G ∧ G f = some (.lst (strsV (ls.take i))) ∧ ∃ b, σ = [some (.ref a), some (.ref p), some (.ref f), b]) ⟨e1, upd_same, _, rfl⟩ (fun i σ G hi ⟨e, _⟩ => e.seq hsq) ?_ ?_
      · rintro i x σ G' G hi ⟨e, hf, b, rfl⟩ ⟨rfl, hx⟩
        rw [hit] at hx
        obtain ⟨l, hl0, rfl⟩ : ∃ l, ls[i]? = some l ∧ x = .str (tx l) := by
          cases z : ls[i]? with
          | none => rw [z] at hx; cases hx
          | some l => rw [z] at hx; cases hx; exact ⟨l, rfl, rfl⟩
        have hgl := hg l (List.mem_of_getElem? hl0)
        refine ⟨_, rfl, _, .str (tx l), rfl, .str _, (by rw [fits, tx_list]; exact hgl.1), fun ds hds v G2 e2 hv => ?_, fun hn => absurd (by rw [evD, tx_list] at hn; exact hn) hgl.2⟩
        have hf2 := e2 _ _ hf
        refine ⟨_, rfl, tyV_lst hf2, _, rfl, f, _, _, rfl, rfl, hf2, zz _ (by unfold strsV; rw [List.length_map]; have := List.length_take_le i ls; omega), same_put (e.trans e2) nf, ?_, _, rfl⟩
        rw [upd_same, List.take_succ, hl0]
        unfold strsV
        rw [List.map_append]
        rfl
      · rintro σ G ⟨e, hf, b, rfl⟩
        rw [hls, List.take_length] at hf
        refine ⟨_, rfl, f, _, rfl, .inl (sqO hf), _, _, rfl, rfl, _, rfl, ?_⟩
        rw [hls]
        refine ite2 (fun h1 => ?_) (fun h1 => ?_)
        · have h2 : ¬ ls.length ≤ 400 := by
            have := of_decide_eq_true h1
            omega
          exact ⟨_, rfl, fun q nq => ke h2 q _ (e.trans (same_new nq)) (none_back e nq) upd_same⟩
        · have h2 : ls.length ≤ 400 := by
            have : ¬ (400 : Int) < ls.length := by simpa using h1
            omega
          refine ⟨_, rfl, f, _, rfl, .inl ⟨sqO hf, fun t nt => ?_⟩⟩
          have e3 := e.trans (same_new (o := .tup (strsV ls)) nt)
          refine ⟨_, rfl, a, _, dx, [], rfl, e3 _ _ ha, T.cl_Archive, T.n_Archive_lines, by decide, ?_⟩
          have nta : t ≠ a := fun q => by rw [q, e _ _ ha] at nt; cases nt
          refine k h2 _ t ((but_same e3).trans but_put) upd_same (stO ?_)
          rw [upd_ne nta, upd_same]
    · refine .inr ⟨_, rfl, p, rfl, ⟨_, e1.sqt hsq⟩, ?_⟩
      refine for_it (walk_tup (xs := strsV ls)) (fun i σ G => Same H G ∧ G f = some (.lst (strsV (ls.take i))) ∧ ∃ b, σ = [some (.ref a), some (.ref p), some (.ref f), b]) ⟨e1, upd_same, _, rfl⟩ (fun i σ G hi ⟨e, _⟩ => e.sqt hsq) ?_ ?_
      · rintro i x σ G' G hi ⟨e, hf, b, rfl⟩ ⟨rfl, hx⟩
        rw [hit] at hx
        obtain ⟨l, hl0, rfl⟩ : ∃ l, ls[i]? = some l ∧ x = .str (tx l) := by
          cases z : ls[i]? with
          | none => rw [z] at hx; cases hx
          | some l => rw [z] at hx; cases hx; exact ⟨l, rfl, rfl⟩
        have hgl := hg l (List.mem_of_getElem? hl0)
        refine ⟨_, rfl, _, .str (tx l), rfl, .str _, (by rw [fits, tx_list]; exact hgl.1), fun ds hds v G2 e2 hv => ?_, fun hn => absurd (by rw [evD, tx_list] at hn; exact hn) hgl.2⟩
        have hf2 := e2 _ _ hf
        refine ⟨_, rfl, tyV_lst hf2, _, rfl, f, _, _, rfl, rfl, hf2, zz _ (by unfold strsV; rw [List.length_map]; have := List.length_take_le i ls; omega), same_put (e.trans e2) nf, ?_, _, rfl⟩
        rw [upd_same, List.take_succ, hl0]
        unfold strsV
        rw [List.map_append]
        rfl
      · rintro σ G ⟨e, hf, b, rfl⟩
        rw [hls, List.take_length] at hf
        refine ⟨_, rfl, f, _, rfl, .inl (sqO hf), _, _, rfl, rfl, _, rfl, ?_⟩
        rw [hls]
        refine ite2 (fun h1 => ?_) (fun h1 => ?_)
        · have h2 : ¬ ls.length ≤ 400 := by
            have := of_decide_eq_true h1
            omega
          exact ⟨_, rfl, fun q nq => ke h2 q _ (e.trans (same_new nq)) (none_back e nq) upd_same⟩
        · have h2 : ls.length ≤ 400 := by
            have : ¬ (400 : Int) < ls.length := by simpa using h1
            omega
          refine ⟨_, rfl, f, _, rfl, .inl ⟨sqO hf, fun t nt => ?_⟩⟩
          have e3 := e.trans (same_new (o := .tup (strsV ls)) nt)
          refine ⟨_, rfl, a, _, dx, [], rfl, e3 _ _ ha, T.cl_Archive, T.n_Archive_lines, by decide, ?_⟩
          have nta : t ≠ a := fun q => by rw [q, e _ _ ha] at nt; cases nt
          refine k h2 _ t ((but_same e3).trans but_put) upd_same (stO ?_)
          rw [upd_ne nta, upd_same]
def sp_len (K : PySem.W.Frag) (C2 : Addr) : Sp := fun vs H Q _ => ∃ a ls, vs = [.ref a] ∧ arcAt K C2 H a ls ∧ Q (.int (ls.length : Nat)) H
theorem sc_Archive___len__ : FnScope ["self"] ["self"] (defScope s_Archive___len__) := ⟨rfl, rfl, rfl, by decide +kernel, rfl, by decide +kernel, by decide +kernel⟩
theorem ok_len (T : Txt P K mg F D C) : FnOk P w K mg base CX0 1 (F 13) (D 13) ["self"] (sp_len K (C 2)) := by
  refine T.u_Archive___len__.ok sc_Archive___len__ (fun vs H Q E h => ?_) (fun cdv A outer s H vs Q E hr h => ?_)
  · obtain ⟨a, ls, rfl, _⟩ := h
    rfl
  · obtain ⟨a, ls, rfl, ⟨dx, t, ha, ht, _⟩, k⟩ := h
    refine ⟨_, (pss_one (ps_ret (pe_callB (r := rLenQ K) cq_len (by rfl) T.z_len (by decide +kernel) (pa_cons (pe_fld (pv 0) rfl) pa_nil)))), ?_⟩
    refine ⟨_, rfl, a, _, dx, _, _, rfl, ha, T.cl_Archive, T.n_Archive_lines, rfl, t, _, rfl, .inr ht, ?_⟩
    unfold strsV
    rw [List.length_map]
    exact k
def sp_eq (K : PySem.W.Frag) (C2 : Addr) : Sp := fun vs H Q _ => ∃ a ls b, vs = [.ref a, .ref b] ∧ arcAt K C2 H a ls ∧ ((∃ ms, arcAt K C2 H b ms ∧ Q (.bl (decide (ls = ms))) H) ∨ ((∃ ys, SqT K H b ys) ∧ Q (.bl false) H))
theorem sc_Archive___eq__ : FnScope ["self", "other"] ["self", "other"] (defScope s_Archive___eq__) := ⟨rfl, rfl, rfl, by decide +kernel, rfl, by decide +kernel, by decide +kernel⟩
theorem ok_eq (T : Txt P K mg F D C) : FnOk P w K mg base CX0 1 (F 14) (D 14) ["self", "other"] (sp_eq K (C 2)) := by
  refine T.u_Archive___eq__.ok sc_Archive___eq__ (fun vs H Q E h => ?_) (fun cdv A outer s H vs Q E hr h => ?_)
  · obtain ⟨a, ls, b, rfl, _⟩ := h
    rfl
  · obtain ⟨a, ls, b, rfl, ⟨dx, t, ha, ht, hL⟩, h⟩ := h
    refine ⟨_, (pss_one (ps_ret (pe_and (pe_callB (r := rIsi K) call_isi (by rfl) T.z_isinstance (by decide +kernel) (pa_cons (pv 1) (pa_cons (pe_glob (v := .ref (C 2)) (by rfl) T.c_Archive rfl) pa_nil))) (pe_one (pe_cmpR (r := rEqD K) (op_eqD hr.units) (pe_fld (pv 0) rfl) (pe_fld (pv 1) rfl) (nomark _)))))), ?_⟩
    rcases h with ⟨ms, ⟨dy, u, hb, hu, hM⟩, k⟩ | ⟨⟨ys, hy⟩, k⟩
    · refine ⟨_, rfl, _, _, _, _, true, rfl, .own _, T.ty_Archive.tyx hb, T.ki_AA, ?_⟩
      refine ⟨_, rfl, ?_⟩
      refine ⟨_, rfl, a, _, dx, _, _, rfl, ha, T.cl_Archive, T.n_Archive_lines, rfl, ?_⟩
      refine ⟨_, rfl, b, _, dy, _, _, rfl, hb, T.cl_Archive, T.n_Archive_lines, rfl, ?_⟩
      refine ⟨.tuple (strsD ls), .tuple (strsD ms), .tup ht (strs_dp ls), .tup hu (strs_dp ms), okd_shaped (lines_okd hL.1 (by have := hL.2; omega)) (by decide), okd_shaped (lines_okd hM.1 (by have := hM.2; omega)) (by decide), ?_⟩
      rw [strs_eqvT]
      exact k
    · refine ⟨_, rfl, _, _, _, _, false, rfl, .own _, tyx_t hy, T.ki_tA, ?_⟩
      exact ⟨_, rfl, k⟩
def sp_events (K : PySem.W.Frag) (C2 : Addr) : Sp := fun vs H Q _ => ∃ a ls, ∃ dss : List (List PyData), vs = [.ref a] ∧ arcAt K C2 H a ls ∧ ls.map evIn = dss.map some ∧ ∀ v H', Same H H' → Dp K H' v (.tuple (dss.map PyData.tuple)) → Q v H'
theorem sc_Archive_events : FnScope ["self", "line"] ["self"] (defScope s_Archive_events) := ⟨rfl, rfl, rfl, by decide +kernel, rfl, by decide +kernel, by decide +kernel⟩
theorem ok_events (T : Txt P K mg F D C) : FnOk P w K mg base CX0 27 (F 15) (D 15) ["self"] (sp_events K (C 2)) := by
  have G_event_in := ok_event_in (P := P) (w := w) (base := base) T
  refine T.u_Archive_events.ok sc_Archive_events (fun vs H Q E h => ?_) (fun cdv A outer s H vs Q E hr h => ?_)
  · obtain ⟨a, ls, dss, rfl, _⟩ := h
    rfl
  · obtain ⟨a, ls, dss, rfl, ⟨dx, t, ha, ht, hL⟩, hev, k⟩ := h
    refine ⟨_, (pss_one (ps_ret (pe_callTy (r := rTupQ K) cq_tup (by rfl) T.z_tuple (by decide +kernel) (pa_cons (pe_lc (own := [("line", 1)]) (g := gName 1) (by rfl) sc_Archive_events.nd (pi_tup (pe_fld (pv 0) rfl)) (blkOk_by (own := [("line", 1)]) (N := ["self", "line"]) (sc := defScope s_Archive_events) (by decide +kernel)) (fun _ _ _ _ _ => (pg_name (i := 1) sc_Archive_events.nd rfl (.inl rfl))) (fun _ _ _ _ _ => pts_nil) (fun _ _ _ _ _ => (pe_call G_event_in (hr.mono (by omega)) (by rfl) T.g_event_in T.u_event_in.kp T.b_event_in .nil passL (pa_cons (pv 1) pa_nil)))) pa_nil)))), ?_⟩
    have hlen : ls.length = dss.length := by
      have := congrArg List.length hev
      simpa using this
    have hL2 := hL.2
    have hev_at : ∀ (i : Nat) (l : List Nat), ls[i]? = some l → evIn l = some (dss.getD i []) := fun i l h => by
      have q := congrArg (fun x => x[i]?) hev
      simp only [List.getElem?_map, h] at q
      cases z : dss[i]? with
      | none => rw [z] at q; cases q
      | some ds =>
        rw [z] at q
        rw [getD_some z]
        simpa using q
    refine ⟨_, rfl, a, _, dx, _, _, rfl, ha, T.cl_Archive, T.n_Archive_lines, rfl, t, rfl, ⟨_, ht⟩, fun Dl nD => lc_dp (K := K) (walk_tup (xs := strsV ls)) nD (fun i => .tuple (dss.getD i [])) (fun i hi => ?_) (by rw [strs_len]; omega) (fun H' e => e.sqt ht) (fun _ _ _ _ _ y => by obtain ⟨rfl, _⟩ := y; exact Same.refl _) (fun x => rfl) (fun i x H1 H2 hi e y Q' q => ?_) (fun H1 xs e hD hv => ?_)⟩
    · rw [strs_len] at hi
      have h0 := hev_at i ls[i] (by simp)
      rw [frozen]
      exact frozen_drawnAll _ (ev_drawn h0)
    · obtain ⟨rfl, hx⟩ := y
      obtain ⟨l, hl, rfl⟩ := strs_at hx
      have hg := hL.1 l (List.mem_of_getElem? hl)
      refine ⟨_, rfl, _, .str (tx l), rfl, .str _, (by rw [fits, tx_list]; exact hg.1), fun ds hds v G2 e2 hv => ?_, fun hn => absurd (by rw [evD, tx_list] at hn; exact hn) hg.2⟩
      rw [evD, tx_list, hev_at i l hl] at hds
      cases hds
      exact q v G2 e2 hv
    · refine ⟨Dl, xs, rfl, .inl ⟨sqO hD, fun tp nt => ?_⟩⟩
      have e3 := same_new (o := .tup xs) nt
      have e4 : (List.range (strsV ls).length).map (fun i => PyData.tuple (dss.getD i [])) = dss.map PyData.tuple := by
        rw [strs_len, hlen, range_map dss [] PyData.tuple]
      rw [e4] at hv
      exact k _ _ (e.trans e3) (.tup (stO upd_same) (DpAll.mono e3 _ _ hv))
def sp_text (K : PySem.W.Frag) (C2 : Addr) : Sp := fun vs H Q _ => ∃ a ls, vs = [.ref a] ∧ arcAt K C2 H a ls ∧ ∀ H', Same H H' → Q (.str (tx (textL ls))) H'
theorem sc_Archive_text : FnScope ["self", "line"] ["self"] (defScope s_Archive_text) := ⟨rfl, rfl, rfl, by decide +kernel, rfl, by decide +kernel, by decide +kernel⟩
theorem ok_text (T : Txt P K mg F D C) : FnOk P w K mg base CX0 1 (F 17) (D 17) ["self"] (sp_text K (C 2)) := by
  refine T.u_Archive_text.ok sc_Archive_text (fun vs H Q E h => ?_) (fun cdv A outer s H vs Q E hr h => ?_)
  · obtain ⟨a, ls, rfl, _⟩ := h
    rfl
  · obtain ⟨a, ls, rfl, ⟨dx, t, ha, ht, hL⟩, k⟩ := h
    refine ⟨_, (pss_one (ps_ret (pe_join pe_str (pe_lc (own := [("line", 1)]) (g := gName 1) (by rfl) sc_Archive_text.nd (pi_tup (pe_fld (pv 0) rfl)) (blkOk_by (own := [("line", 1)]) (N := ["self", "line"]) (sc := defScope s_Archive_text) (by decide +kernel)) (fun _ _ _ _ _ => (pg_name (i := 1) sc_Archive_text.nd rfl (.inl rfl))) (fun _ _ _ _ _ => pts_nil) (fun _ _ _ _ _ => (pe_op op_add_str (pv 1) pe_str)))))), ?_⟩
    have hL2 := hL.2
    have eN : Str.ofString "\n" = tx [10] := rfl
    refine ⟨⟨_, rfl⟩, _, rfl, a, _, dx, _, _, rfl, ha, T.cl_Archive, T.n_Archive_lines, rfl, t, rfl, ⟨_, ht⟩, fun Dl nD => lc_map (walk_tup (xs := strsV ls)) nD (fun i => .str (tx (ls.getD i [] ++ [10]))) (by rw [strs_len]; omega) (fun H' e => e.sqt ht) (fun _ _ _ _ _ y => by obtain ⟨rfl, _⟩ := y; exact Same.refl _) (fun x => rfl) (fun i x H1 H2 hi e y Q' q => ?_) (fun H1 e hD => ?_)⟩
    · obtain ⟨rfl, hx⟩ := y
      obtain ⟨l, hl, rfl⟩ := strs_at hx
      have hg := hL.1 l (List.mem_of_getElem? hl)
      rw [getD_some hl] at q
      have := hg.1.1
      refine ⟨_, rfl, tx l, tx [10], rfl, rfl, (by rw [tx_len, tx_len]; exact Nat.le_trans (show _ ≤ 2000 by simp only [List.length_singleton]; omega) (by decide)), ?_⟩
      rw [tx_app]
      exact q _ (Same.refl _)
    · have e2 : (List.range (strsV ls).length).map (fun i => V.str (tx (ls.getD i [] ++ [10]))) = (((ls.map fun l => l ++ [10])).map tx).map V.str := by
        rw [strs_len, range_map ls [] fun l => V.str (tx (l ++ [10]))]
        simp
      rw [e2] at hD
      refine ⟨tx [], Dl, _, rfl, rfl, .inl (sqO hD), ?_, ?_⟩
      · have := len_sum1 ls hL.1
        rw [tx_len]
        simp only [List.length_nil, Nat.mul_zero, Nat.add_zero]
        omega
      · rw [join_tx]
        have := k H1 e
        unfold textL at this
        rw [← joinL_nil] at this
        exact this
def sp_chain (K : PySem.W.Frag) (C2 : Addr) : Sp := fun vs H Q _ => ∃ a ls, vs = [.ref a] ∧ arcAt K C2 H a ls ∧ ∀ t H', Same H H' → SqT K H' t ((chainL ls 0).map V.int) → Q (.ref t) H'
theorem sc_Archive_chain : FnScope ["self", "found", "here", "line"] ["self"] (defScope s_Archive_chain) := ⟨rfl, rfl, rfl, by decide +kernel, rfl, by decide +kernel, by decide +kernel⟩
theorem ok_chain (T : Txt P K mg F D C) : FnOk P w K mg base CX0 2 (F 18) (D 18) ["self"] (sp_chain K (C 2)) := by
  have G_figure := ok_figure (P := P) (w := w) (base := base) T
  refine T.u_Archive_chain.ok sc_Archive_chain (fun vs H Q E h => ?_) (fun cdv A outer s H vs Q E hr h => ?_)
  · obtain ⟨a, ls, rfl, _⟩ := h
    rfl
  · obtain ⟨a, ls, rfl, ⟨dx, t, ha, ht, hL⟩, k⟩ := h
    refine ⟨_, (pss_cons (ps_par (i := 1) (j := 2) (by rfl) sc_Archive_chain.nd rfl rfl (by decide) rfl rfl (pa_cons (pe_lst pa_nil) (pa_cons pe_int pa_nil)) (by rfl))
      (pss_cons (ps_for PassesOwn.never rfl (pi_tup (pe_fld (pv 0) rfl)) (pg_name (i := 3) sc_Archive_chain.nd rfl (.inl rfl))
        (pss_cons (ps_set (i := 2) sc_Archive_chain.nd rfl (.inl rfl) (pe_op op_mod (pe_op op_add (pe_op op_mul (pv 2) pe_int) (pe_call G_figure (hr.mono (by omega)) (by rfl) T.g_figure T.u_figure.kp T.b_figure .nil pass0 (pa_cons (pv 3) pa_nil))) pe_int))
        (pss_one (ps_expr (pe_bm PySem.F.plainAttrs_list PySem.F.slot_list_append PySem.F.type_list_append mt_append (pv 1) (pa_cons (pv 2) pa_nil))))))
      (pss_one (ps_ret (pe_callTy (r := rTupQ K) cq_tup (by rfl) T.z_tuple (by decide +kernel) (pa_cons (pv 1) pa_nil)))))), ?_⟩
    have hL2 := hL.2
    refine ⟨by decide, fun f nf => ⟨_, _, rfl, ?_⟩⟩
    have e1 := same_new (o := .lst []) nf
    refine ⟨_, rfl, a, _, dx, _, _, rfl, e1 _ _ ha, T.cl_Archive, T.n_Archive_lines, rfl, t, rfl, ⟨_, e1.sqt ht⟩, ?_⟩
    refine for_it (walk_tup (xs := strsV ls)) (fun i σ G => i ≤ ls.length ∧ Same H G ∧ G f = some (.lst ((chainL (ls.take i) 0).map V.int)) ∧ ∃ b, σ = [some (.ref a), some (.ref f), some (.int (hereL (ls.take i) 0)), b]) ⟨Nat.zero_le _, e1, upd_same, _, rfl⟩ (fun i σ G hi ⟨_, e, _⟩ => e.sqt ht) ?_ ?_
    · rintro i x σ G' G hi ⟨_, e, hf, b, rfl⟩ ⟨rfl, hx⟩
      obtain ⟨l, hl, rfl⟩ := strs_at hx
      have hg := hL.1 l (List.mem_of_getElem? hl)
      have hb := hereL_lt (ls.take i) 0 (by decide)
      rw [strs_len] at hi
      refine ⟨_, rfl, _, _, rfl, rfl, .inr ⟨by decide, by decide⟩, ?_⟩
      refine ⟨_, rfl, l, rfl, good_sig hg, by have := hg.1.1; omega, fun G2 e2 => ?_⟩
      refine ⟨_, _, rfl, rfl, _, _, rfl, rfl, (by decide : (0 : Int) < 997), ?_⟩
      have hf2 := e2 _ _ hf
      refine ⟨_, rfl, tyV_lst hf2, _, rfl, f, _, _, rfl, rfl, hf2, ?_, hi, same_put (e.trans e2) nf, ?_, some (.str (tx l)), ?_⟩
      · rw [List.length_map, chainL_len]
        exact Nat.lt_of_le_of_lt (show _ ≤ 1000 by have := List.length_take_le i ls; omega) (by decide)
      · rw [upd_same, List.take_succ, hl]
        show _ = some (HO.lst ((chainL (ls.take i ++ [l]) 0).map V.int))
        rw [chainL_app, List.map_append]
        rfl
      · rw [List.take_succ, hl]
        show _ = [some (V.ref a), some (V.ref f), some (V.int (hereL (ls.take i ++ [l]) 0)), some (V.str (tx l))]
        rw [hereL_app]
        rfl
    · rintro σ G ⟨_, e, hf, b, rfl⟩
      rw [strs_len, List.take_length] at hf
      refine ⟨_, rfl, f, _, rfl, .inl ⟨sqO hf, fun tp nt => ?_⟩⟩
      exact k _ _ (e.trans (same_new nt)) (stO upd_same)
def sp_unlike (K : PySem.W.Frag) (C2 : Addr) : Sp := fun vs H Q _ => ∃ a ls b ms, vs = [.ref a, .ref b] ∧ arcAt K C2 H a ls ∧ arcAt K C2 H b ms ∧ ∀ H', Same H H' → Q (unlikeV ls ms (max ls.length ms.length)) H'
theorem sc_Archive_first_unlike : FnScope ["self", "other", "at"] ["self", "other"] (defScope s_Archive_first_unlike) := ⟨rfl, rfl, rfl, by decide +kernel, rfl, by decide +kernel, by decide +kernel⟩
theorem ok_unlike (T : Txt P K mg F D C) : FnOk P w K mg base CX0 1 (F 19) (D 19) ["self", "other"] (sp_unlike K (C 2)) := by
  refine T.u_Archive_first_unlike.ok sc_Archive_first_unlike (fun vs H Q E h => ?_) (fun cdv A outer s H vs Q E hr h => ?_)
  · obtain ⟨a, ls, b, ms, rfl, _⟩ := h
    rfl
  · obtain ⟨a, ls, b, ms, rfl, ⟨dx, t, ha, ht, hL⟩, ⟨dy, u, hb, hu, hM⟩, k⟩ := h
    refine ⟨_, (pss_cons (ps_for PassesOwn.never rfl (pi_range1 (by rfl) T.z_range (pa_cons (pe_callB (call_max2 rfl) (by rfl) T.z_max (by decide +kernel) (pa_cons (pe_callB (r := rLenQ K) cq_len (by rfl) T.z_len (by decide +kernel) (pa_cons (pe_fld (pv 0) rfl) pa_nil)) (pa_cons (pe_callB (r := rLenQ K) cq_len (by rfl) T.z_len (by decide +kernel) (pa_cons (pe_fld (pv 1) rfl) pa_nil)) pa_nil))) pa_nil)) (pg_name (i := 2) sc_Archive_first_unlike.nd rfl (.inl rfl))
        (pss_one (ps_if (pt_cmpR (r := rNeD K) (op_neD hr.units) (pe_slice (r := rSlA K) sl_tupA (pe_fld (pv 0) rfl) (po_some (pv 2)) (po_some (pe_op op_add (pv 2) pe_int))) (pe_slice (r := rSlA K) sl_tupA (pe_fld (pv 1) rfl) (po_some (pv 2)) (po_some (pe_op op_add (pv 2) pe_int))) (nomark _)) (pss_one (ps_ret (pv 2)))
          pss_nil)))
      (pss_one (ps_ret pe_non))), ?_⟩
    have hL2 := hL.2
    have hM2 := hM.2
    refine ⟨_, rfl, a, _, dx, _, _, rfl, ha, T.cl_Archive, T.n_Archive_lines, rfl, t, _, rfl, .inr ht, ?_⟩
    refine ⟨_, rfl, b, _, dy, _, _, rfl, hb, T.cl_Archive, T.n_Archive_lines, rfl, u, _, rfl, .inr hu, _, _, rfl, ?_⟩
    rw [strs_len, strs_len, maxI]
    refine ⟨_, rfl, by omega, by omega, ?_⟩
    rw [Int.toNat_natCast]
    refine for_it walk_range0 (fun i σ G => i ≤ max ls.length ms.length ∧ Same H G ∧ (∀ j, j < i → ls[j]? = ms[j]?) ∧ ∃ c, σ = [some (.ref a), some (.ref b), c]) ⟨Nat.zero_le _, Same.refl H, (fun j hj => nomatch hj), _, rfl⟩ (fun _ _ _ _ _ => trivial) ?_ ?_
    · rintro i x σ G' G hi ⟨_, e, hj, c, rfl⟩ ⟨rfl, rfl⟩
      refine ⟨_, rfl, a, _, dx, _, _, rfl, e _ _ ha, T.cl_Archive, T.n_Archive_lines, rfl, _, rfl, _, rfl, _, rfl, _, _, rfl, rfl, _, rfl, ?_⟩
      refine use_slA (e.sqt ht) fun p1 G1 s1 h1 => ?_
      have e1 := e.trans s1
      refine ⟨_, rfl, b, _, dy, _, _, rfl, e1 _ _ hb, T.cl_Archive, T.n_Archive_lines, rfl, _, rfl, _, rfl, _, rfl, _, _, rfl, rfl, _, rfl, ?_⟩
      refine use_slA (e1.sqt hu) fun p2 G2 s2 h2 => ?_
      have e2 := e1.trans s2
      unfold strsV at h1 h2
      rw [cutV_at] at h1 h2
      refine ⟨_, _, .tup (s2.sqt h1) (strs_dp _), .tup h2 (strs_dp _), okd_shaped (lines_sub hL.1 i) (by decide), okd_shaped (lines_sub hM.1 i) (by decide), ?_⟩
      rw [strs_eqvT]
      refine ⟨_, rfl, ite2 (fun h3 => ?_) (fun h3 => ?_)⟩
      · have hne : ls[i]? ≠ ms[i]? := fun q => by
          rw [decide_eq_true (one_iff.mpr q)] at h3
          exact absurd h3 (by decide)
        have := k G2 e2
        rw [unlike_at hi hj hne] at this
        exact ⟨_, rfl, this⟩
      · have heq : ls[i]? = ms[i]? := one_iff.mp (by simpa using h3)
        refine ⟨hi, e2, fun j hj2 => ?_, _, rfl⟩
        rcases Nat.lt_succ_iff_lt_or_eq.mp hj2 with q | q
        · exact hj j q
        · rw [q]
          exact heq
    · rintro σ G ⟨_, e, hj, c, rfl⟩
      have := k G e
      rw [unlike_none hj] at this
      exact this
end
end LW
set_option Elab.async false
set_option linter.all false
set_option maxRecDepth 100000
set_option maxHeartbeats 8000000
/-! k11: with_event, read_text, kept_lines. -/
namespace LW
open PySem L2
mutual
theorem wr_drawn : ∀ (d : PyData), drawn d = true → wrOne d = true
  | .tuple ds, h => by
    rw [drawn] at h
    show wrD (.tuple ds) = true
    rw [wrD]
    exact wr_drawnAll ds h
  | .str z, h => by
    rw [drawn] at h
    show (wholeD (.str z) || nameD (.str z)) = true
    show (false || nameL z.cps.toList) = true
    rw [h]
    rfl
  | .int i, _ => rfl
  | .none, h => by simp [drawn] at h
  | .bool b, h => by simp [drawn] at h
  | .list l, h => by simp [drawn] at h
  | .dict l, h => by simp [drawn] at h
theorem wr_drawnAll : ∀ (ds : List PyData), drawnAll ds = true → wrAll ds = true
  | [], _ => by rw [wrAll]
  | d :: ds, h => by
    rw [drawnAll, Bool.and_eq_true] at h
    rw [wrAll]
    have := wr_drawn d h.1
    unfold wrOne at this
    rw [this, wr_drawnAll ds h.2]
    rfl
end
/-- an event as it is drawn -/
structure Ev (ds : List PyData) : Prop where
  dr : drawnAll ds = true
  ok : ∀ e ∈ ds, evOk 22 e
  wk : wOk 20 (.tuple ds)
  len : (textE ds).length ≤ 900
  good : goodL (lineE ds)
section
variable {P : Program} {w : World} {K : PySem.W.Frag} {mg : Str → Option Value} {base : Heap} {F : Nat → Addr} {D : Nat → FuncData} {C : Nat → Addr}
theorem arc_of {C2 : Addr} {H : Hp} {a dx t : Addr} {ls : List (List Nat)} (h : H a = some (.ins C2 dx [("lines", .ref t)])) (g : SqT K H t (strsV ls)) (l : Lines ls) : arcAt K C2 H a ls := ⟨dx, t, h, g, l⟩
/-- what a call of Archive comes to -/
theorem use_init {C1 C2 : Addr} {E : XK} {H : Hp} {p : Addr} {ls : List (List Nat)} {Q : VK} (hs : SqL K H p (strsV ls) ∨ SqT K H p (strsV ls)) (hL : Lines ls) (k : ∀ b H', Same H H' → arcAt K C2 H' b ls → Q (.ref b) H') :
    ∀ x dx, H x = none → H dx = none → dx ≠ x → sp_init K C1 C2 [.ref x, .ref p] (upd (upd H dx (.own x)) x (.ins C2 dx [])) (fun v H2 => v = .non ∧ Q (.ref x) H2) E := by
  intro x dx nx ndx ne
  have e1 := same_new (o := .own x) ndx
  have nx1 : upd H dx (.own x) x = none := by rw [upd_ne ne.symm]; exact nx
  have e2 := e1.trans (same_new (o := .ins C2 dx []) nx1)
  refine ⟨x, dx, p, ls, rfl, upd_same, hs.elim (fun h => .inl (e2.seq h)) (fun h => .inr (e2.sqt h)), hL.1, by have := hL.2; omega, fun _ H' t sb hx ht => ⟨rfl, k x H' (fun b o hb => ?_) ⟨dx, t, hx, ht, hL⟩⟩, fun q => absurd hL.2 q⟩
  have hbx : b ≠ x := fun q => by rw [q, nx] at hb; cases hb
  exact sb b o hbx (e2 b o hb)
theorem use_initR {C1 C2 : Addr} {E : XK} {H : Hp} {p x dx : Addr} {zs : List V} {ls : List (List Nat)} {R : VK} (nx : H x = none) (ndx : H dx = none) (ne : dx ≠ x) (hz : zs = [.ref p]) (hs : SqL K H p (strsV ls) ∨ SqT K H p (strsV ls)) (hL : Lines ls)
    (k : ∀ H', Same H H' → arcAt K C2 H' x ls → R .non H') : sp_init K C1 C2 (.ref x :: zs) (upd (upd H dx (.own x)) x (.ins C2 dx [])) R E := by
  subst hz
  have e1 := same_new (o := .own x) ndx
  have nx1 : upd H dx (.own x) x = none := by rw [upd_ne ne.symm]; exact nx
  have e2 := e1.trans (same_new (o := .ins C2 dx []) nx1)
  refine ⟨x, dx, p, ls, rfl, upd_same, hs.elim (fun h => .inl (e2.seq h)) (fun h => .inr (e2.sqt h)), hL.1, by have := hL.2; omega, fun _ H' t sb hx ht => k H' (fun b o hb => ?_) ⟨dx, t, hx, ht, hL⟩, fun q => absurd hL.2 q⟩
  have hbx : b ≠ x := fun q => by rw [q, nx] at hb; cases hb
  exact sb b o hbx (e2 b o hb)
def sp_with (K : PySem.W.Frag) (C0 C2 : Addr) : Sp := fun vs H Q E => ∃ a ls x d, vs = [.ref a, x] ∧ arcAt K C2 H a ls ∧ Dp K H x d ∧ wOk 20 d ∧
  ((∃ ds, d = .tuple ds ∧ Ev ds ∧ ls.length < 400 ∧ ∀ b H', Same H H' → arcAt K C2 H' b (ls ++ [lineE ds]) → Q (.ref b) H') ∨
   (wrD d = false ∧ ∀ p H', Same H H' → H p = none → H' p = some (.xd [("line", x)]) → E (.ref C0) (some p) H'))
theorem sc_Archive_with_event : FnScope ["self", "event"] ["self", "event"] (defScope s_Archive_with_event) := ⟨rfl, rfl, rfl, by decide +kernel, rfl, by decide +kernel, by decide +kernel⟩
theorem ok_with (T : Txt P K mg F D C) : FnOk P w K mg base (L2.CX P w) 29 (F 16) (D 16) ["self", "event"] (sp_with K (C 0) (C 2)) := by
  have G_is_writable := ok_is_writable (P := P) (w := w) (base := base) T 20
  have G_line_of := ok_line_of (P := P) (w := w) (base := base) T 22
  have G_Archive___init__ := ok_init (P := P) (w := w) (base := base) T
  refine T.u_Archive_with_event.okX sc_Archive_with_event (fun vs H Q E h => ?_) (fun cdv A outer s H vs Q E hr h => ?_)
  · obtain ⟨a, ls, x, d, rfl, _⟩ := h
    rfl
  · obtain ⟨a, ls, x, d, rfl, ⟨dx, t, ha, ht, hL⟩, hx, hw, h⟩ := h
    refine ⟨_, (pss_cons (ps_if (pt_not (pt_val (pe_call G_is_writable (hr.mono (by omega)) (by rfl) T.g_is_writable T.u_is_writable.kp T.b_is_writable .nil pass0 (pa_cons (pv 1) pa_nil)))) (pss_one (ps_raiseErr rfl T.e_BadNote hr (takes_of rfl rfl rfl rfl) (by exact (pa_cons (pv 1) pa_nil))))
        pss_nil)
      (pss_one (ps_ret (pe_make T.m_Archive G_Archive___init__ (hr.mono (by omega)) (by rfl) T.c_Archive T.b_Archive___init__ .nil passL (pa_cons (pe_op (r := rCatA K) op_catA (pe_fld (pv 0) rfl) (pe_tup (pa_cons (pe_call G_line_of (hr.mono (by omega)) (by rfl) T.g_line_of T.u_line_of.kp T.b_line_of .nil pass0 (pa_cons (pv 1) pa_nil)) pa_nil))) pa_nil))))), ?_⟩
    refine ⟨_, rfl, _, d, rfl, hx, hw, fun G e => ⟨_, rfl, ?_⟩⟩
    rcases h with ⟨ds, rfl, hE, hl, k⟩ | ⟨hw, k⟩
    · have wt : wrD (.tuple ds) = true := by rw [wrD]; exact wr_drawnAll ds hE.dr
      refine if_f (by rw [wt]; rfl) ?_
      refine ⟨_, rfl, a, _, dx, _, _, rfl, e _ _ ha, T.cl_Archive, T.n_Archive_lines, rfl, ?_⟩
      refine ⟨_, rfl, _, ds, rfl, Dp.mono e _ _ hx, hE.ok, hE.dr, by have := hE.len; omega, fun G1 e1 => ⟨(show 1 ≤ sizeLine by decide), fun tp nt => ?_⟩⟩
      have e2 := (e.trans e1).trans (same_new (o := .tup [.str (tx (lineE ds))]) nt)
      refine use_catA (xs := strsV ls) (ys := strsV [lineE ds]) (e2.sqt ht) (stO upd_same) ?_ fun p H' e3 hp => ?_
      · rw [strs_len, strs_len]
        exact Nat.le_trans (show _ ≤ 1000 by have := hL.2; simp only [List.length_singleton]; omega) (by decide)
      · have hp2 : SqT K H' p (strsV (ls ++ [lineE ds])) := by
          unfold strsV at hp ⊢
          rw [List.map_append]
          exact hp
        refine use_init (.inr hp2) ⟨fun l hl => ?_, by rw [List.length_append, List.length_singleton]; omega⟩ fun b H2 e4 hb => k b H2 ((e2.trans e3).trans e4) hb
        rcases List.mem_append.mp hl with hl | hl
        · exact hL.1 l hl
        · rw [List.mem_singleton.mp hl]
          exact hE.good
    · refine if_t (by rw [hw]; rfl) ?_
      exact ⟨_, rfl, _, rfl, fun p np => k p _ (e.trans (same_new np)) (none_back e np) upd_same⟩
def sp_read (K : PySem.W.Frag) (C0 C2 : Addr) : Sp := fun vs H Q E => ∃ x d, vs = [x] ∧ Dp K H x d ∧
  ((∃ ls, d = .str (tx (textL ls)) ∧ Lines ls ∧ ∀ b H', Same H H' → arcAt K C2 H' b ls → Q (.ref b) H') ∨
   ((∀ z, d = .str z → z.length ≤ 1000 ∧ ∃ c, z.cps.toList.getLast? = some c ∧ c ≠ 10) ∧ ∀ p H', Same H H' → H p = none → H' p = some (.xd [("line", x)]) → E (.ref C0) (some p) H'))
theorem sc_read_text : FnScope ["text"] ["text"] (defScope s_read_text) := ⟨rfl, rfl, rfl, by decide +kernel, rfl, by decide +kernel, by decide +kernel⟩
theorem ok_read (T : Txt P K mg F D C) : FnOk P w K mg base (L2.CX P w) 29 (F 20) (D 20) ["text"] (sp_read K (C 0) (C 2)) := by
  have G_Archive___init__ := ok_init (P := P) (w := w) (base := base) T
  refine T.u_read_text.okX sc_read_text (fun vs H Q E h => ?_) (fun cdv A outer s H vs Q E hr h => ?_)
  · obtain ⟨x, d, rfl, _⟩ := h
    rfl
  · obtain ⟨x, d, rfl, hx, h⟩ := h
    refine ⟨_, (pss_cons (ps_if (PW.pt (pw_or (pt_not (pt_val (pe_callB (r := rIsi K) call_isi (by rfl) T.z_isinstance (by decide +kernel) (pa_cons (pv 0) (pa_cons (pe_bltn (v := .ty "str") (by rfl) T.z_str (by decide +kernel) rfl) pa_nil))))) (pw_or1 (PW.pt (pw_and (pt_cmpR op_ne (pv 0) pe_str (nomark _)) (pw_and1 (pt_cmpR op_ne (pe_ix ix_str (pv 0) (pe_un un_neg pe_int) (fun _ _ => rfl)) pe_str (nomark _)))))))) (pss_one (ps_raiseErr rfl T.e_BadNote hr (takes_of rfl rfl rfl rfl) (by exact (pa_cons (pv 0) pa_nil))))
        pss_nil)
      (pss_one (ps_ret (pe_make T.m_Archive G_Archive___init__ (hr.mono (by omega)) (by rfl) T.c_Archive T.b_Archive___init__ .nil passL (pa_cons (pe_slice sl_list (pe_split (pv 0) pe_str) po_none (po_some (pe_un un_neg pe_int))) pa_nil))))), ?_⟩
    refine ⟨_, rfl, _, _, .type (tyName d), _, isStr d, rfl, .ty _, tyx_d hx, kit_str d, _, rfl, ?_⟩
    have c0 : ∀ l : List Nat, decide (V.str (tx l) = V.str (Str.ofString "")) = decide (l = []) := fun l => dec_tx l []
    have c1 : ∀ c : Nat, decide (V.str ⟨#[c]⟩ = V.str (Str.ofString "\n")) = decide (c = 10) := fun c => (dec_tx [c] [10]).trans (by simp)
    rcases h with ⟨ls, rfl, hL, k⟩ | ⟨hb, k⟩
    · cases hx
      refine if_f rfl ?_
      have hlen := textL_len hL.1
      have hL2 := hL.2
      have sz : (tx (textL ls)).length ≤ sizeLine := by rw [tx_len]; exact Nat.le_trans (show _ ≤ 1000000 by omega) (by decide)
      have rest : ∀ G, Same H G → tRet (tMake (C 2) (sp_init K (C 1) (C 2)) [] E0 (tCons (tSl (rSlL K) (tM1 (fun x xs H Q => ∃ a b, x = V.str a ∧ xs = [V.str b] ∧ (b.length == 0) = false ∧ a.length + 2 ≤ sizeLine ∧ rNewStrs (Txt.split a b) H Q) (tVar 0) (tC (V.str (Str.ofString "\n")))) tNoPart (tPart (tUn (rU fun i => V.int (-i)) (tC (V.int 1))))) tNil)) { nx := fun x H' => Q V.non H', rt := Q } (L2.start [Str.ofString "text"] [V.str (tx (textL ls))]) G := fun G e => by
        refine ⟨_, rfl, ⟨_, rfl⟩, _, _, rfl, rfl, rfl, (by rw [tx_len]; exact Nat.le_trans (show _ ≤ 1000000 by omega) (by decide)), fun p np => ?_⟩
        have es : Txt.split (tx (textL ls)) (Str.ofString "\n") = (ls ++ [[]]).map tx := by
          rw [← spl_lines ls fun l hl => no_feed (hL.1 l hl)]
          exact split_tx (by decide)
        rw [es]
        have e1 := e.trans (same_new (o := .lst (((ls ++ [[]]).map tx).map V.str)) np)
        refine ⟨_, rfl, _, rfl, p, _, rfl, sqO upd_same, fun q nq => ?_⟩
        have e2 := e1.trans (same_new (o := .lst (cutV (((ls ++ [[]]).map tx).map V.str) none (some (-1)))) nq)
        have ec : cutV (((ls ++ [[]]).map tx).map V.str) none (some (-1)) = strsV ls := by
          rw [List.map_map]
          exact cutV_init _ ls []
        refine use_init (ls := ls) (.inl (sqO (by rw [upd_same]; exact congrArg (fun z => some (HO.lst z)) ec))) hL fun b H2 e4 hb => k b H2 (e2.trans e4) hb
      by_cases z : textL ls = []
      · refine ⟨_, rfl, rfl, _, rfl, ?_⟩
        refine if_f (by rw [c0, decide_eq_true z]; rfl) ?_
        exact rest H (Same.refl H)
      · obtain ⟨ys, hy⟩ := textL_last ls z
        refine ⟨_, rfl, rfl, _, rfl, ?_⟩
        refine if_t (by rw [c0, decide_eq_false z]; rfl) ?_
        refine ⟨_, rfl, _, rfl, _, _, 10, rfl, rfl, sz, (by rw [tx_list, hy]; exact atI_last ys 10), rfl, _, rfl, ?_⟩
        refine if_f (by rw [c1]; rfl) ?_
        exact rest H (Same.refl H)
    · cases d with
      | str z =>
        obtain ⟨l, rfl⟩ : ∃ l, z = tx l := ⟨_, (tx_of z).symm⟩
        obtain ⟨hz, c, hc, hn⟩ := hb _ rfl
        rw [tx_list] at hc
        cases hx
        refine if_f rfl ?_
        obtain ⟨ys, hy⟩ := List.getLast?_eq_some_iff.mp hc
        have sz : (tx l).length ≤ sizeLine := Nat.le_trans hz (by decide)
        refine ⟨_, rfl, rfl, _, rfl, ?_⟩
        refine if_t (by rw [c0, decide_eq_false (by rw [hy]; simp)]; rfl) ?_
        refine ⟨_, rfl, _, rfl, _, _, c, rfl, rfl, sz, (by rw [tx_list, hy]; exact atI_last ys c), rfl, _, rfl, ?_⟩
        refine if_t (by rw [c1, decide_eq_false hn]; rfl) ?_
        exact ⟨_, rfl, _, rfl, fun p np => k p _ (same_new np) np upd_same⟩
      | _ =>
        refine if_t rfl ?_
        exact ⟨_, rfl, _, rfl, fun p np => k p _ (same_new np) np upd_same⟩
def sp_kept (K : PySem.W.Frag) (C2 : Addr) : Sp := fun vs H Q _ => ∃ p xs, ∃ dss : List (List PyData), vs = [.ref p] ∧ SqL K H p xs ∧ DpAll K H xs (dss.map PyData.tuple) ∧ (∀ ds ∈ dss, Ev ds) ∧ dss.length ≤ 300 ∧ ∀ b H', Same H H' → arcAt K C2 H' b (dss.map lineE) → Q (.ref b) H'
theorem sc_kept_lines : FnScope ["events", "found", "event"] ["events"] (defScope s_kept_lines) := ⟨rfl, rfl, rfl, by decide +kernel, rfl, by decide +kernel, by decide +kernel⟩
theorem ok_kept (T : Txt P K mg F D C) : FnOk P w K mg base CX0 30 (F 21) (D 21) ["events"] (sp_kept K (C 2)) := by
  have G_Archive___init__ := ok_init (P := P) (w := w) (base := base) T
  have G_Archive_with_event := ok_with (P := P) (w := w) (base := base) T
  refine T.u_kept_lines.ok sc_kept_lines (fun vs H Q E h => ?_) (fun cdv A outer s H vs Q E hr h => ?_)
  · obtain ⟨p, xs, dss, rfl, _⟩ := h
    rfl
  · obtain ⟨p, xs, dss, rfl, hs, hxs, hE, hl, k⟩ := h
    refine ⟨_, (pss_cons (ps_set (i := 1) sc_kept_lines.nd rfl (.inl rfl) (pe_make0 T.m_Archive G_Archive___init__ (hr.mono (by omega)) (by rfl) T.c_Archive T.b0_Archive___init__.choose_spec.2 T.b0_Archive___init__.choose_spec.1 passL))
      (pss_cons (ps_for PassesOwn.never rfl (pi_list (pv 0)) (pg_name (i := 2) sc_kept_lines.nd rfl (.inl rfl))
        (pss_one (ps_set (i := 1) sc_kept_lines.nd rfl (.inl rfl) (pe_meth (pv 1) T.cl_Archive T.mt_Archive_with_event G_Archive_with_event (hr.mono (by omega)) T.b_Archive_with_event .nil passL (pa_cons (pv 2) pa_nil)))))
      (pss_one (ps_ret (pv 1))))), ?_⟩
    have hxl := hxs.length
    rw [List.length_map] at hxl
    have hE9 : ∀ G : Hp, SqT K G (C 9) (strsV []) := fun G => by
      obtain ⟨o, n, h1, h2, h3⟩ := T.ed
      exact .inr ⟨o, #[], n, h1, h2, h3, Nat.zero_le _, .nil⟩
    refine fun b0 dx0 nx0 ndx0 ne0 => use_initR (ls := []) nx0 ndx0 ne0 rfl (.inr (hE9 H)) ⟨(fun l hl => nomatch hl), by decide⟩ fun H0 e0 hb0 => ⟨rfl, ?_⟩
    refine ⟨_, rfl, p, rfl, ⟨_, e0.seq hs⟩, ?_⟩
    refine for_it (walk_list (xs := xs)) (fun i σ G => i ≤ dss.length ∧ Same H G ∧ ∃ b, arcAt K (C 2) G b ((dss.take i).map lineE) ∧ ∃ c, σ = [some (.ref p), some (.ref b), c]) ⟨Nat.zero_le _, e0, b0, hb0, _, rfl⟩ (fun i σ G hi ⟨_, e, _⟩ => e.seq hs) ?_ ?_
    · rintro i x σ G' G hi ⟨_, e, b, hb, c, rfl⟩ ⟨rfl, hx⟩
      rw [hxl] at hi
      obtain ⟨v, hv, hvd⟩ := hxs.get (i := i) (d := .tuple dss[i]) (by simp [hi])
      rw [hx] at hv
      cases hv
      have hEi := hE dss[i] (List.getElem_mem hi)
      obtain ⟨dx, t, ha, ht, hL⟩ := hb
      refine ⟨_, rfl, b, dx, _, rfl, ha, rfl, _, rfl, b, _, _, _, rfl, ⟨dx, t, ha, ht, hL⟩, Dp.mono e _ _ hvd, hEi.wk, .inl ⟨_, rfl, hEi, ?_, fun b2 G2 e2 hb2 => ⟨hi, e.trans e2, b2, ?_, _, rfl⟩⟩⟩
      · rw [List.length_map]
        have := List.length_take_le i dss
        omega
      · rw [List.take_succ, List.getElem?_eq_getElem hi, List.map_append]
        exact hb2
    · rintro σ G ⟨_, e, b, hb, c, rfl⟩
      rw [hxl, List.take_length] at hb
      exact ⟨_, rfl, k b G e hb⟩
end
end LW
set_option Elab.async false
set_option linter.all false
set_option maxRecDepth 100000
set_option maxHeartbeats 8000000
/-! k11: the law's own small defs. -/
namespace LW
open PySem L2
def tALPHA : Str := "abcdefghijklmnopqrstuvwxyz0123456789"
theorem alpha_tx : tALPHA.cps.toList = List.range' 97 26 ++ List.range' 48 10 := by decide +kernel
theorem alpha_at {i : Nat} (h : i < 36) : ∃ c, tALPHA.cps.toList[i]? = some c ∧ (isLet c = true ∨ isFig c = true) ∧ (i < 26 → isLet c = true) := by
  rw [alpha_tx]
  have key : ∀ j, j < 36 → ((List.range' 97 26 ++ List.range' 48 10)[j]?).any (fun c => (isLet c || isFig c) && (!decide (j < 26) || isLet c)) = true := by decide +kernel
  have q := key i h
  cases z : (List.range' 97 26 ++ List.range' 48 10)[i]? with
  | none => rw [z] at q; cases q
  | some c =>
    rw [z] at q
    have q2 : ((isLet c || isFig c) && (!decide (i < 26) || isLet c)) = true := q
    simp only [Bool.and_eq_true, Bool.or_eq_true] at q2
    refine ⟨c, rfl, q2.1, fun hi => ?_⟩
    rcases q2.2 with g | g
    · rw [decide_eq_true hi] at g
      exact absurd g (by decide)
    · exact g
section
variable {P : Program} {w : World} {K : PySem.W.Frag} {mg : Str → Option Value} {base : Heap} {F : Nat → Addr} {D : Nat → FuncData} {C : Nat → Addr}
theorem txtD (T : Txt P K mg F D C) : TxtD K mg (F 22) := ⟨T.z_int, T.z_len, T.g__law_taken, T.u__law_taken.kp⟩
theorem g_taken (T : Txt P K mg F D C) : FnOk P w K mg base CX0 1 (F 22) (D 22) ["row", "many"] (spTaken K) := ok_taken T.u__law_taken (txtD T)
theorem g_pick (T : Txt P K mg F D C) : FnOk P w K mg base CX0 2 (F 23) (D 23) ["row", "kinds"] (spPick K) := ok_pick T.u__law_pick (txtD T) T.u__law_taken T.b__law_taken
def sp_name (K : PySem.W.Frag) : Sp := fun vs H Q _ => ∃ a r, vs = [.ref r] ∧ RowI K a r H ∧ ∀ l H', SameBut r H H' → RowI K a r H' → nameL l = true → Q (.str (tx l)) H'
theorem sc__law_name : FnScope ["row", "signs", "size", "found", "k"] ["row"] (defScope s__law_name) := ⟨rfl, rfl, rfl, by decide +kernel, rfl, by decide +kernel, by decide +kernel⟩
theorem ok_name (T : Txt P K mg F D C) : FnOk P w K mg base CX0 3 (F 25) (D 25) ["row"] (sp_name K) := by
  have G__law_taken := g_taken (P := P) (w := w) (base := base) T
  have G__law_pick := g_pick (P := P) (w := w) (base := base) T
  refine T.u__law_name.ok sc__law_name (fun vs H Q E h => ?_) (fun cdv A outer s H vs Q E hr h => ?_)
  · obtain ⟨a, r, rfl, _⟩ := h
    rfl
  · obtain ⟨a, r, rfl, R, k⟩ := h
    refine ⟨_, (pss_cons (ps_set (i := 1) sc__law_name.nd rfl (.inl rfl) pe_str)
      (pss_cons (ps_set (i := 2) sc__law_name.nd rfl (.inl rfl) (pe_call G__law_pick (hr.mono (by omega)) (by rfl) T.g__law_pick T.u__law_pick.kp T.b__law_pick .nil pass0 (pa_cons (pv 0) (pa_cons (pe_lst (pa_cons pe_int (pa_cons pe_int (pa_cons pe_int (pa_cons pe_int (pa_cons pe_int (pa_cons pe_int pa_nil))))))) pa_nil))))
      (pss_cons (ps_set (i := 3) sc__law_name.nd rfl (.inl rfl) (pe_ix ix_str (pv 1) (pe_call G__law_taken (hr.mono (by omega)) (by rfl) T.g__law_taken T.u__law_taken.kp T.b__law_taken .nil pass0 (pa_cons (pv 0) (pa_cons pe_int pa_nil))) (fun _ _ => rfl)))
      (pss_cons (ps_for PassesOwn.never rfl (pi_range1 (by rfl) T.z_range (pa_cons (pe_op op_sub (pv 2) pe_int) pa_nil)) (pg_name (i := 4) sc__law_name.nd rfl (.inl rfl))
        (pss_one (ps_set (i := 3) sc__law_name.nd rfl (.inl rfl) (pe_op op_add_str (pv 3) (pe_ix ix_str (pv 1) (pe_call G__law_taken (hr.mono (by omega)) (by rfl) T.g__law_taken T.u__law_taken.kp T.b__law_taken .nil pass0 (pa_cons (pv 0) (pa_cons pe_int pa_nil))) (fun _ _ => rfl))))))
      (pss_one (ps_ret (pv 3))))))), ?_⟩
    refine ⟨_, rfl, (show 6 ≤ sizeLine by decide), fun p np => ?_⟩
    have e0 := same_new (o := .lst [V.int 1, .int 1, .int 2, .int 3, .int 5, .int 12]) np
    have npr : p ≠ r := fun q => by
      obtain ⟨xs, hx⟩ := R.some
      rw [q, hx] at np
      cases np
    refine use_pick (R.same e0) upd_same npr (show 0 < 6 by decide) (show 6 < 1073741824 by decide) fun v H1 hv e1 R1 => ?_
    obtain ⟨n, rfl, hn1, hn2⟩ : ∃ n : Nat, v = .int n ∧ 1 ≤ n ∧ n ≤ 12 := by
      simp only [List.mem_cons, List.not_mem_nil, or_false] at hv
      rcases hv with rfl | rfl | rfl | rfl | rfl | rfl
      · exact ⟨1, rfl, by decide, by decide⟩
      · exact ⟨1, rfl, by decide, by decide⟩
      · exact ⟨2, rfl, by decide, by decide⟩
      · exact ⟨3, rfl, by decide, by decide⟩
      · exact ⟨5, rfl, by decide, by decide⟩
      · exact ⟨12, rfl, by decide, by decide⟩
    have e01 : SameBut r H H1 := (but_same e0).trans e1
    have sz : tALPHA.length ≤ sizeLine := by decide +kernel
    have atA : ∀ j : Int, 0 ≤ j → j < 36 → ∃ c, atI tALPHA.cps.toList j = some c ∧ (isLet c = true ∨ isFig c = true) ∧ (j < 26 → isLet c = true) := fun j h1 h2 => by
      obtain ⟨c, h3, h4, h5⟩ := alpha_at (i := j.toNat) (by omega)
      refine ⟨c, ?_, h4, fun q => h5 (by omega)⟩
      have := atI_nat h3
      rwa [show ((j.toNat : Nat) : Int) = j by omega] at this
    refine ⟨_, rfl, _, rfl, ?_⟩
    refine ⟨a, r, 26, rfl, R1, by decide, by decide, fun j H2 g1 g2 b2 R2 => ?_⟩
    have e2 := b2.sb
    obtain ⟨c, hc, hcl, hc26⟩ := atA j g1 (by omega)
    refine ⟨_, _, c, rfl, rfl, sz, hc, ?_⟩
    refine ⟨_, rfl, _, _, rfl, rfl, _, rfl, (by omega : -(2 ^ 62) ≤ (n : Int) - 1), (by omega : (n : Int) - 1 < 2 ^ 62), ?_⟩
    have hm : ((n : Int) - 1).toNat = n - 1 := by omega
    rw [hm]
    refine for_it walk_range0 (fun i σ G => i ≤ n - 1 ∧ SameBut r H G ∧ RowI K a r G ∧ ∃ l, l.length = i + 1 ∧ isLet (l.getD 0 0) = true ∧ (∀ x ∈ l, isLet x = true ∨ isFig x = true) ∧ ∃ b, σ = [some (.ref r), some (.str tALPHA), some (.int (n : Nat)), some (.str (tx l)), b])
      ⟨Nat.zero_le _, e01.trans e2, R2, [c], rfl, hc26 g2, (fun x hx => by rw [List.mem_singleton.mp hx]; exact hcl), _, rfl⟩ (fun _ _ _ _ _ => trivial) ?_ ?_
    · rintro i x σ G' G hi ⟨_, e, R3, l, hl, h0, hal, b, rfl⟩ ⟨rfl, rfl⟩
      refine ⟨_, rfl, _, rfl, _, rfl, ?_⟩
      refine ⟨a, r, 36, rfl, R3, by decide, by decide, fun j H3 g1 g2 b3 R4 => ?_⟩
      have e3 := b3.sb
      obtain ⟨c2, hc2, hcl2, _⟩ := atA j g1 g2
      refine ⟨_, _, c2, rfl, rfl, sz, hc2, _, tx [c2], rfl, rfl, ?_, ?_⟩
      · rw [tx_len, tx_len, hl]
        exact Nat.le_trans (show _ ≤ 1000 by simp only [List.length_singleton]; omega) (by decide)
      · rw [tx_app]
        refine ⟨hi, e.trans e3, R4, l ++ [c2], by rw [List.length_append, hl]; rfl, ?_, fun x hx => ?_, _, rfl⟩
        · cases l with
          | nil => cases hl
          | cons y l => exact h0
        · rcases List.mem_append.mp hx with hx | hx
          · exact hal x hx
          · rw [List.mem_singleton.mp hx]
            exact hcl2
    · rintro σ G ⟨_, e, R3, l, hl, h0, hal, b, rfl⟩
      refine ⟨_, rfl, k l G e R3 ?_⟩
      unfold nameL
      rw [h0, decide_eq_true (show 1 ≤ l.length by omega), decide_eq_true (show l.length ≤ 12 by omega)]
      simp only [Bool.true_and]
      exact List.all_eq_true.mpr fun x hx => by simpa using hal x hx
def sp_feed : Sp := fun vs H Q _ => vs = [] ∧ Q (.str (tx [10])) H
theorem sc__law_feed : FnScope [] [] (defScope s__law_feed) := ⟨rfl, rfl, rfl, by decide +kernel, rfl, by decide +kernel, by decide +kernel⟩
theorem ok_feed (T : Txt P K mg F D C) : FnOk P w K mg base CX0 1 (F 27) (D 27) [] sp_feed := by
  refine T.u__law_feed.ok sc__law_feed (fun vs H Q E h => ?_) (fun cdv A outer s H vs Q E hr h => ?_)
  · obtain ⟨rfl, _⟩ := h
    rfl
  · obtain ⟨rfl, k⟩ := h
    exact ⟨_, (pss_one (ps_ret pe_str)), k⟩
theorem sc__law_word : FnScope ["part", "one"] ["part"] (defScope s__law_word) := ⟨rfl, rfl, rfl, by decide +kernel, rfl, by decide +kernel, by decide +kernel⟩
theorem ok_lword (T : Txt P K mg F D C) : ∀ n : Nat, FnOk P w K mg base CX0 (n + 1) (F 29) (D 29) ["part"] (sp_word_of K n) := by
  intro n
  induction n with
  | zero =>
    refine T.u__law_word.ok sc__law_word (fun vs H Q E h => ?_) (fun cdv A outer s H vs Q E hr h => ?_)
    · obtain ⟨x, d, rfl, _⟩ := h
      rfl
    · obtain ⟨x, d, rfl, _, hd, _⟩ := h
      exact hd.elim
  | succ n ih =>
    refine T.u__law_word.ok sc__law_word (fun vs H Q E h => ?_) (fun cdv A outer s H vs Q E hr h => ?_)
    · obtain ⟨x, d, rfl, _⟩ := h
      rfl
    · obtain ⟨x, d, rfl, hx, hd, hl, k⟩ := h
      have G__law_word := ih
      refine ⟨_, (pss_cons (ps_if (pt_val (pe_callB (r := rIsi K) call_isi (by rfl) T.z_isinstance (by decide +kernel) (pa_cons (pv 0) (pa_cons (pe_bltn (v := .ty "tuple") (by rfl) T.z_tuple (by decide +kernel) rfl) pa_nil)))) (pss_one (ps_ret (pe_op op_add_str (pe_op op_add_str pe_str (pe_join pe_str (pe_lc (own := [("one", 1)]) (g := gName 1) (by rfl) sc__law_word.nd (pi_tup (pv 0)) (blkOk_by (own := [("one", 1)]) (N := ["part", "one"]) (sc := defScope s__law_word) (by decide +kernel)) (fun _ _ _ _ _ => (pg_name (i := 1) sc__law_word.nd rfl (.inl rfl))) (fun _ _ _ _ _ => pts_nil) (fun _ _ _ _ _ => (pe_call G__law_word (hr.mono (by omega)) (by rfl) T.g__law_word T.u__law_word.kp T.b__law_word .nil pass0 (pa_cons (pv 1) pa_nil)))))) pe_str)))
        pss_nil)
      (pss_one (ps_ret (pe_callTy (call_str_int.or SkE.call_str_str) (by rfl) T.z_str (by decide +kernel) (pa_cons (pv 0) pa_nil))))), ?_⟩
      refine ⟨_, rfl, _, _, .type (tyName d), _, isTup d, rfl, .ty _, tyx_d hx, kit_tup d, _, rfl, ?_⟩
      cases hx with
      | @tup a xs ds sx ax =>
        refine if_t rfl ?_
        rw [wt_tuple] at hl
        have jl := join_len ds
        have ln := len_sumW ds
        unfold textE at hl
        repeat (first | refine ⟨_, pf (by first | rfl | assumption | exact ⟨_, rfl⟩ | exact ⟨_, by assumption⟩ | exact stO upd_same | exact sqO upd_same), ?_⟩ | refine ⟨_, _, pf (by first | rfl | assumption | exact ⟨_, rfl⟩ | exact ⟨_, by assumption⟩ | exact stO upd_same | exact sqO upd_same), ?_⟩ | refine ⟨_, _, pf (by first | rfl | assumption | exact ⟨_, rfl⟩ | exact ⟨_, by assumption⟩ | exact stO upd_same | exact sqO upd_same), pf (by first | rfl | assumption | exact ⟨_, rfl⟩ | exact ⟨_, by assumption⟩ | exact stO upd_same | exact sqO upd_same), ?_⟩ | refine ⟨_, pf (by first | rfl | assumption | exact ⟨_, rfl⟩ | exact ⟨_, by assumption⟩ | exact stO upd_same | exact sqO upd_same), pf (by first | rfl | assumption | exact ⟨_, rfl⟩ | exact ⟨_, by assumption⟩ | exact stO upd_same | exact sqO upd_same), ?_⟩ | refine ⟨_, _, _, pf (by first | rfl | assumption | exact ⟨_, rfl⟩ | exact ⟨_, by assumption⟩ | exact stO upd_same | exact sqO upd_same), pf (by first | rfl | assumption | exact ⟨_, rfl⟩ | exact ⟨_, by assumption⟩ | exact stO upd_same | exact sqO upd_same), pf (by first | rfl | assumption | exact ⟨_, rfl⟩ | exact ⟨_, by assumption⟩ | exact stO upd_same | exact sqO upd_same), pf (by first | rfl | assumption | exact ⟨_, rfl⟩ | exact ⟨_, by assumption⟩ | exact stO upd_same | exact sqO upd_same), ?_⟩ | refine ⟨_, _, _, pf (by first | rfl | assumption | exact ⟨_, rfl⟩ | exact ⟨_, by assumption⟩ | exact stO upd_same | exact sqO upd_same), pf (by first | rfl | assumption | exact ⟨_, rfl⟩ | exact ⟨_, by assumption⟩ | exact stO upd_same | exact sqO upd_same), pf (by first | rfl | assumption | exact ⟨_, rfl⟩ | exact ⟨_, by assumption⟩ | exact stO upd_same | exact sqO upd_same), ?_⟩ | refine ⟨_, _, _, pf (by first | rfl | assumption | exact ⟨_, rfl⟩ | exact ⟨_, by assumption⟩ | exact stO upd_same | exact sqO upd_same), pf (by first | rfl | assumption | exact ⟨_, rfl⟩ | exact ⟨_, by assumption⟩ | exact stO upd_same | exact sqO upd_same), ?_⟩ | refine ⟨_, _, pf (by first | rfl | assumption | exact ⟨_, rfl⟩ | exact ⟨_, by assumption⟩ | exact stO upd_same | exact sqO upd_same), pf (by first | rfl | assumption | exact ⟨_, rfl⟩ | exact ⟨_, by assumption⟩ | exact stO upd_same | exact sqO upd_same), pf (by first | rfl | assumption | exact ⟨_, rfl⟩ | exact ⟨_, by assumption⟩ | exact stO upd_same | exact sqO upd_same), ?_⟩ | refine ⟨_, _, _, _, pf (by first | rfl | assumption | exact ⟨_, rfl⟩ | exact ⟨_, by assumption⟩ | exact stO upd_same | exact sqO upd_same), pf (by first | rfl | assumption | exact ⟨_, rfl⟩ | exact ⟨_, by assumption⟩ | exact stO upd_same | exact sqO upd_same), pf (by first | rfl | assumption | exact ⟨_, rfl⟩ | exact ⟨_, by assumption⟩ | exact stO upd_same | exact sqO upd_same), ?_⟩ | refine ⟨_, _, _, _, pf (by first | rfl | assumption | exact ⟨_, rfl⟩ | exact ⟨_, by assumption⟩ | exact stO upd_same | exact sqO upd_same), pf (by first | rfl | assumption | exact ⟨_, rfl⟩ | exact ⟨_, by assumption⟩ | exact stO upd_same | exact sqO upd_same), pf (by first | rfl | assumption | exact ⟨_, rfl⟩ | exact ⟨_, by assumption⟩ | exact stO upd_same | exact sqO upd_same), pf (by first | rfl | assumption | exact ⟨_, rfl⟩ | exact ⟨_, by assumption⟩ | exact stO upd_same | exact sqO upd_same), ?_⟩ | refine ⟨pf (by first | rfl | assumption | exact ⟨_, rfl⟩ | exact ⟨_, by assumption⟩ | exact stO upd_same | exact sqO upd_same), ?_⟩)
        refine fun Dl nD => lc_map walk_tup nD (fun i => .str (tx (wordD (ds.getD i .none)))) (by rw [ax.length]; omega) (fun H' e => e.sqt sx) (fun _ _ _ _ _ y => by obtain ⟨rfl, _⟩ := y; exact Same.refl _) (fun x => rfl) (fun i x H1 H2 hi e y Q' q => ?_) (fun H1 e hD => ?_)
        · obtain ⟨rfl, hx⟩ := y
          obtain ⟨d, hd'⟩ : ∃ d, ds[i]? = some d := ⟨ds[i]'(by rw [← ax.length]; exact hi), by simp⟩
          obtain ⟨v, hv, hvd⟩ := ax.get hd'
          rw [hx] at hv
          cases hv
          rw [getD_some hd'] at q
          have hm := List.mem_of_getElem? hd'
          refine ⟨_, rfl, _, _, rfl, Dp.mono e _ _ hvd, hd d hm, ?_, fun H' e' => q H' e'⟩
          have := mem_sumW hm
          omega
        · rw [words_range ax.length] at hD
          refine ⟨tx [32], Dl, (wordsD ds).map tx, rfl, rfl, .inl (sqO hD), (by rw [words_sum]; omega), ?_⟩
          rw [join_tx]
          have z1 : (tx [40]).length + (tx (joinL [32] (wordsD ds))).length ≤ sizeLine := by
            rw [tx_len, tx_len]
            exact Nat.le_trans (show _ ≤ 1000000 by simp only [List.length_singleton]; omega) (by decide)
          have z2 : (tx [40] ++ tx (joinL [32] (wordsD ds))).length + (tx [41]).length ≤ sizeLine := by
            rw [tx_app, tx_len, tx_len]
            exact Nat.le_trans (show _ ≤ 1000000 by simp only [List.length_singleton, List.length_append]; omega) (by decide)
          refine ⟨tx [40], _, rfl, rfl, z1, _, tx [41], rfl, rfl, z2, ?_⟩
          rw [tx_app, tx_app]
          have e4 : wordD (.tuple ds) = [40] ++ joinL [32] (wordsD ds) ++ [41] := by
            rw [wordD]
            simp
          have := k H1 e
          rw [e4] at this
          exact this
      | str z =>
        refine if_f rfl ?_
        have e := k H (Same.refl H)
        rw [wordD, tx_of] at e
        exact ⟨_, rfl, .inr ⟨_, rfl, e⟩⟩
      | int i =>
        refine if_f rfl ?_
        have e := k H (Same.refl H)
        rw [wordD, ← num_tx] at e
        exact ⟨_, rfl, .inl ⟨_, rfl, log_lt hd, e⟩⟩
      | _ => exact hd.elim
theorem sc__law_figure : FnScope ["text", "signs", "total", "k"] ["text"] (defScope s__law_figure) := ⟨rfl, rfl, rfl, by decide +kernel, rfl, by decide +kernel, by decide +kernel⟩
theorem ok_lfigure (T : Txt P K mg F D C) : FnOk P w K mg base CX0 1 (F 30) (D 30) ["text"] sp_figure := by
  refine T.u__law_figure.ok sc__law_figure (fun vs H Q E h => ?_) (fun cdv A outer s H vs Q E hr h => ?_)
  · obtain ⟨l, rfl, _⟩ := h
    rfl
  · obtain ⟨l, rfl, hs, hl, k⟩ := h
    refine ⟨_, (pss_cons (ps_asg (pe_tup (pa_cons pe_str (pa_cons pe_int pa_nil))) (pg_tup (by rfl) (pgs_cons (pg_name (i := 1) sc__law_figure.nd rfl (.inl rfl)) (pgs_cons (pg_name (i := 2) sc__law_figure.nd rfl (.inl rfl)) pgs_nil))))
      (pss_cons (ps_for PassesOwn.never rfl (pi_range1 (by rfl) T.z_range (pa_cons (pe_callB call_len_str (by rfl) T.z_len (by decide +kernel) (pa_cons (pv 0) pa_nil)) pa_nil)) (pg_name (i := 3) sc__law_figure.nd rfl (.inl rfl))
        (pss_one (ps_set (i := 2) sc__law_figure.nd rfl (.inl rfl) (pe_op op_add (pv 2) (pe_op op_mul (pe_op op_add (pe_bm PySem.F.plainAttrs_str PySem.F.slot_str_index PySem.F.type_str_index mt_sindex (pv 1) (pa_cons (pe_ix ix_str (pv 0) (pv 3) (fun _ _ => rfl)) pa_nil)) pe_int) (pe_op op_add (pv 3) pe_int))))))
      (pss_one (ps_ret (pe_op op_sub (pv 2) (pe_op op_mul (pe_op op_fdiv (pv 2) pe_int) pe_int)))))), ?_⟩
    have sz : (tx l).length ≤ sizeLine := by rw [tx_len]; exact Nat.le_trans hl (by decide)
    refine ⟨(show 2 ≤ sizeLine by decide), fun tp np => ⟨tp, _, rfl, stO upd_same, rfl, ?_⟩⟩
    have e0 := same_new (o := .tup [.str tSIGNS, .int 0]) np
    refine ⟨_, _, rfl, _, _, rfl, rfl, ?_⟩
    refine ⟨_, rfl, _, rfl, sz, _, rfl, (by rw [tx_len]; omega), (by rw [tx_len]; omega), ?_⟩
    rw [Int.toNat_natCast, tx_len]
    refine for_it walk_range0 (fun i σ G => Same H G ∧ ∃ b, σ = [some (.str (tx l)), some (.str tSIGNS), some (.int (figTo l i)), b]) ⟨e0, _, rfl⟩ (fun _ _ _ _ _ => trivial) ?_ ?_
    · rintro i x σ G' G hi ⟨e0, b, rfl⟩ ⟨rfl, rfl⟩
      obtain ⟨c, hc⟩ : ∃ c, l[i]? = some c := ⟨l[i], by simp⟩
      have hsig : isSig c = true := List.all_eq_true.mp hs c (List.mem_of_getElem? hc)
      obtain ⟨rest, occ⟩ := occ_sig hsig
      have ha : atI (tx l).cps.toList (i : Int) = some c := by rw [tx_list]; exact atI_nat hc
      refine ⟨_, rfl, _, rfl, rfl, _, rfl, _, rfl, _, _, c, rfl, rfl, sz, ha, _, _, _, rest, rfl, rfl, occ, _, _, rfl, rfl, _, rfl, _, _, rfl, rfl, _, _, rfl, rfl, .inl ⟨by have := ix_lt c; omega, by have := ix_lt c; omega⟩, _, _, rfl, rfl, e0, some (.int (i : Nat)), ?_⟩
      have gi : l.getD i 0 = c := getD_some hc
      rw [figTo, gi]
      rfl
    · rintro σ G ⟨e0, b, rfl⟩
      refine ⟨_, rfl, _, rfl, _, _, rfl, rfl, ⟨by decide, by decide⟩, _, _, rfl, rfl, .inr ⟨by decide, by decide⟩, _, _, rfl, rfl, ?_⟩
      have e1 : figTo l l.length - figTo l l.length / 97 * 97 = figN l := by
        unfold figN
        omega
      have := k G e0
      rw [← e1] at this
      exact this
/-- what is drawn with j levels left -/
structure PartOk (j : Nat) (d : PyData) : Prop where
  dr : drawn d = true
  ok : evOk (j + 1) d
  wk : wOk (j + 1) d
  len : (wordD d).length ≤ (if j = 0 then 12 else if j = 1 then 28 else 60)
  cnt : (wordD d).count 40 ≤ (if j = 0 then 0 else if j = 1 then 1 else 3)
theorem PartOk.fz {j : Nat} {d : PyData} (h : PartOk j d) : frozen d = true := frozen_drawn d h.dr
theorem cnt_num (i : Int) : (numL i).count 40 = 0 := List.count_eq_zero.mpr fun h => by
  rcases num_chars 40 h with q | q
  · exact absurd q (by decide)
  · exact absurd q (by decide)
theorem part_int {j : Nat} {i : Int} (h : i.natAbs ≤ 999999999) : PartOk j (.int i) := by
  have hl := num_len h
  refine ⟨by rw [drawn]; exact decide_eq_true h, h, trivial, ?_, ?_⟩
  · rw [wordD]
    split
    · omega
    · split <;> omega
  · rw [wordD, cnt_num]
    exact Nat.zero_le _
theorem part_nameJ {j : Nat} {l : List Nat} (h : nameL l = true) : PartOk j (.str (tx l)) := by
  have n := name_parts h
  have c0 : l.count 40 = 0 := List.count_eq_zero.mpr fun hm => by
    rcases n.2.2.2 40 hm with q | q
    · exact absurd q (by decide)
    · exact absurd q (by decide)
  refine ⟨by rw [drawn, tx_list]; exact h, ⟨by rw [tx_list]; exact n.1, by rw [tx_list]; exact n.2.1, name_str h⟩, by show (tx l).length ≤ 100000; rw [tx_len]; omega, ?_, ?_⟩
  · rw [wordD, tx_list]
    split
    · omega
    · split <;> omega
  · rw [wordD, tx_list, c0]
    exact Nat.zero_le _
theorem cnt_join (c : Nat) (h : c ≠ 32) : ∀ ls : List (List Nat), (joinL [32] ls).count c = (ls.map fun l => l.count c).sum
  | [] => rfl
  | [x] => by simp [joinL]
  | x :: y :: ls => by
    rw [joinL, List.count_append, List.count_append, cnt_join c h (y :: ls)]
    simp only [List.map_cons, List.sum_cons]
    have : [32].count c = 0 := List.count_eq_zero.mpr (by simpa using h)
    omega
theorem part_row {j : Nat} {ds : List PyData} (hj : j ≤ 1) (hl : ds.length ≤ 2) (h : ∀ d ∈ ds, PartOk j d) : PartOk (j + 1) (.tuple ds) := by
  have hdr : drawnAll ds = true := by
    clear hl
    induction ds with
    | nil => rw [drawnAll]
    | cons d ds ih => rw [drawnAll, (h d List.mem_cons_self).dr, ih fun x hx => h x (List.mem_cons_of_mem _ hx)]; rfl
  have jl := join_len ds
  have hc := cnt_join 40 (by decide) (wordsD ds)
  rw [wordsD_map, List.map_map] at hc
  have sums : sumW ds ≤ 2 * ((if j = 0 then 12 else if j = 1 then 28 else 60) + 1) ∧ (ds.map ((fun l => l.count 40) ∘ wordD)).sum ≤ 2 * (if j = 0 then 0 else if j = 1 then 1 else 3) := by
    match ds, hl, h with
    | [], _, _ => exact ⟨Nat.zero_le _, Nat.zero_le _⟩
    | [d], _, h =>
      have q := h d List.mem_cons_self
      have q1 := q.len
      have q2 := q.cnt
      constructor
      · simp only [sumW, List.map_cons, List.map_nil, List.sum_cons, List.sum_nil]
        omega
      · simp only [List.map_cons, List.map_nil, List.sum_cons, List.sum_nil, Function.comp]
        omega
    | [d, e], _, h =>
      have q := h d List.mem_cons_self
      have p := h e (List.mem_cons_of_mem _ List.mem_cons_self)
      have q1 := q.len
      have q2 := q.cnt
      have p1 := p.len
      have p2 := p.cnt
      constructor
      · simp only [sumW, List.map_cons, List.map_nil, List.sum_cons, List.sum_nil]
        omega
      · simp only [List.map_cons, List.map_nil, List.sum_cons, List.sum_nil, Function.comp]
        omega
    | _ :: _ :: _ :: _, hl, _ => exact absurd hl (by simp)
  refine ⟨by rw [drawn]; exact hdr, fun e he => (h e he).ok, ⟨by omega, fun e he => (h e he).wk⟩, ?_, ?_⟩
  · rw [wt_tuple]
    unfold textE
    rcases (by omega : j = 0 ∨ j = 1) with rfl | rfl
    · have := sums.1
      simp at this ⊢
      omega
    · have := sums.1
      simp at this ⊢
      omega
  · rw [wordD, List.count_cons, List.count_append]
    have e1 : [41].count 40 = 0 := by decide
    rw [e1, wordsD_map, hc]
    rcases (by omega : j = 0 ∨ j = 1) with rfl | rfl
    · have := sums.2
      simp at this ⊢
      omega
    · have := sums.2
      simp at this ⊢
      omega
def sp_part (K : PySem.W.Frag) (j : Nat) : Sp := fun vs H Q _ => ∃ a r, vs = [.ref r, .int (2 - (j : Int))] ∧ j ≤ 2 ∧ RowI K a r H ∧ ∀ v d H', SameBut r H H' → RowI K a r H' → Dp K H' v d → PartOk j d → Q v H'
theorem sc__law_part : FnScope ["row", "depth", "kind", "k"] ["row", "depth"] (defScope s__law_part) := ⟨rfl, rfl, rfl, by decide +kernel, rfl, by decide +kernel, by decide +kernel⟩
theorem part_step (T : Txt P K mg F D C) (j : Nat) (spx : Sp) (G__law_part : FnOk P w K mg base CX0 (j + 3) (F 28) (D 28) ["row", "depth"] spx) (hx : 1 ≤ j → spx = sp_part K (j - 1)) : FnOk P w K mg base CX0 (j + 4) (F 28) (D 28) ["row", "depth"] (sp_part K j) := by
  have G__law_taken := g_taken (P := P) (w := w) (base := base) T
  have G__law_pick := g_pick (P := P) (w := w) (base := base) T
  have G__law_name := ok_name (P := P) (w := w) (base := base) T
  refine T.u__law_part.ok sc__law_part (fun vs H Q E h => ?_) (fun cdv A outer s H vs Q E hr h => ?_)
  · obtain ⟨a, r, rfl, _⟩ := h
    rfl
  · obtain ⟨a, r, rfl, hj, R, k⟩ := h
    refine ⟨_, (pss_cons (ps_set (i := 2) sc__law_part.nd rfl (.inl rfl) (pe_call G__law_taken (hr.mono (by omega)) (by rfl) T.g__law_taken T.u__law_taken.kp T.b__law_taken .nil pass0 (pa_cons (pv 0) (pa_cons pe_int pa_nil))))
      (pss_cons (ps_if (PW.pt (pw_or (pt_cmpR op_lt (pv 2) pe_int (nomark _)) (pw_or1 (PW.pt (pw_and (pt_cmpR op_gt (pv 2) pe_int (nomark _)) (pw_and1 (pt_cmpR op_gt (pv 1) pe_int (nomark _)))))))) (pss_one (ps_ret (pe_call G__law_pick (hr.mono (by omega)) (by rfl) T.g__law_pick T.u__law_pick.kp T.b__law_pick .nil pass0 (pa_cons (pv 0) (pa_cons (pe_lst (pa_cons pe_int (pa_cons pe_int (pa_cons (pe_un un_neg pe_int) (pa_cons pe_int (pa_cons (pe_call G__law_taken (hr.mono (by omega)) (by rfl) T.g__law_taken T.u__law_taken.kp T.b__law_taken .nil pass0 (pa_cons (pv 0) (pa_cons pe_int pa_nil))) (pa_cons (pe_op op_sub (pe_un un_neg (pe_call G__law_taken (hr.mono (by omega)) (by rfl) T.g__law_taken T.u__law_taken.kp T.b__law_taken .nil pass0 (pa_cons (pv 0) (pa_cons pe_int pa_nil)))) pe_int) pa_nil))))))) pa_nil)))))
        pss_nil)
      (pss_cons (ps_if (pt_cmpR op_lt (pv 2) pe_int (nomark _)) (pss_one (ps_ret (pe_call G__law_name (hr.mono (by omega)) (by rfl) T.g__law_name T.u__law_name.kp T.b__law_name .nil pass0 (pa_cons (pv 0) pa_nil))))
        pss_nil)
      (pss_one (ps_ret (pe_callTy (r := rTupQ K) cq_tup (by rfl) T.z_tuple (by decide +kernel) (pa_cons (pe_lc (own := [("k", 3)]) (g := gName 3) (by rfl) sc__law_part.nd (pi_range1 (by rfl) T.z_range (pa_cons (pe_call G__law_taken (hr.mono (by omega)) (by rfl) T.g__law_taken T.u__law_taken.kp T.b__law_taken .nil pass0 (pa_cons (pv 0) (pa_cons pe_int pa_nil))) pa_nil)) (blkOk_by (own := [("k", 3)]) (N := ["row", "depth", "kind", "k"]) (sc := defScope s__law_part) (by decide +kernel)) (fun _ _ _ _ _ => (pg_name (i := 3) sc__law_part.nd rfl (.inl rfl))) (fun _ _ _ _ _ => pts_nil) (fun _ _ _ _ _ => (pe_call G__law_part (hr.mono (by omega)) (by rfl) T.g__law_part T.u__law_part.kp T.b__law_part .nil pass0 (pa_cons (pv 0) (pa_cons (pe_op op_add (pv 1) pe_int) pa_nil))))) pa_nil))))))), ?_⟩
    refine ⟨_, rfl, a, r, 6, rfl, R, by decide, by decide, fun q H1 g1 g2 b1 R1 => ?_⟩
    have pick : ∀ G, SameBut r H G → RowI K a r G → ∀ D0 : Ends, D0.rt = Q → (tRet (tCall (spPick K) [] E0 (tCons (tVar 0) (tCons (tLst (tCons (tC (V.int 0)) (tCons (tC (V.int 7)) (tCons (tUn (rU fun i => V.int (-i)) (tC (V.int 3))) (tCons (tC (V.int 999999999)) (tCons (tCall (spTaken K) [] E0 (tCons (tVar 0) (tCons (tC (V.int 5000)) tNil))) (tCons (tOp (rI0 fun i j => V.int (i - j)) (tUn (rU fun i => V.int (-i)) (tCall (spTaken K) [] E0 (tCons (tVar 0) (tCons (tC (V.int 90)) tNil)))) (tC (V.int 1))) tNil))))))) tNil)))) D0 [some (V.ref r), some (V.int (2 - (j : Int))), some (V.int q), none] G := fun G e R2 D0 hD => by
      refine ⟨_, rfl, _, rfl, _, rfl, a, r, 5000, rfl, R2, by decide, by decide, fun i H2 i1 i2 b2 R3 => ?_⟩
      refine ⟨_, rfl, a, r, 90, rfl, R3, by decide, by decide, fun m H3 m1 m2 b3 R4 => ?_⟩
      refine ⟨_, rfl, _, _, rfl, rfl, (show 6 ≤ sizeLine by decide), fun p np => ?_⟩
      have e4 := same_new (o := .lst [V.int 0, .int 7, .int (-3), .int 999999999, .int i, .int (-m - 1)]) np
      have npr : p ≠ r := fun z => by
        obtain ⟨xs, hx⟩ := R4.some
        rw [z, hx] at np
        cases np
      refine ⟨a, r, p, _, rfl, R4.same e4, upd_same, npr, (show 0 < 6 by decide), (show 6 < 1073741824 by decide), fun v H5 hv b5 R5 => ?_⟩
      rw [hD]
      obtain ⟨n, rfl, hn⟩ : ∃ n : Int, v = .int n ∧ n.natAbs ≤ 999999999 := by
        simp only [List.mem_cons, List.not_mem_nil, or_false] at hv
        rcases hv with rfl | rfl | rfl | rfl | rfl | rfl
        · exact ⟨_, rfl, by decide⟩
        · exact ⟨_, rfl, by decide⟩
        · exact ⟨_, rfl, by decide⟩
        · exact ⟨_, rfl, by decide⟩
        · exact ⟨_, rfl, by omega⟩
        · exact ⟨_, rfl, by omega⟩
      exact k _ (.int n) H5 ((((e.trans b2.sb).trans b3.sb).trans (but_same e4)).trans b5.sb) R5 (.int n) (part_int hn)
    refine ⟨_, rfl, _, _, rfl, rfl, _, rfl, ?_⟩
    refine ite2 (fun h1 => ?_) (fun h1 => ?_)
    · exact pick H1 b1.sb R1 _ rfl
    refine ⟨_, rfl, _, _, rfl, rfl, _, rfl, ?_⟩
    refine ite2 (fun h2 => ?_) (fun h2 => ?_)
    · refine ⟨_, rfl, _, _, rfl, rfl, _, rfl, ?_⟩
      refine ite2 (fun h3 => ?_) (fun h3 => ?_)
      · exact pick H1 b1.sb R1 _ rfl
      refine ⟨_, rfl, _, _, rfl, rfl, _, rfl, ?_⟩
      have q5 : (4 : Int) < q := of_decide_eq_true h2
      refine if_f (decide_eq_false (by omega)) ?_
      have j1 : 1 ≤ j := by
        have : ¬ (1 : Int) < 2 - (j : Int) := by simpa using h3
        omega
      obtain rfl := hx j1
      refine ⟨_, rfl, a, r, 3, rfl, R1, by decide, by decide, fun i H2 i1 i2 b2 R2 => ?_⟩
      have e2 := b1.sb.trans b2.sb
      refine ⟨_, rfl, by omega, by omega, fun Dl nD => lc_row (K := K) (walk_range0 (n := i.toNat)) R2 nD (fun _ d => PartOk (j - 1) d) (fun _ d h => h.fz) (by omega) (fun _ _ _ => trivial) (fun _ _ _ _ _ y => y.1) (fun x => rfl) (fun m x H3 hm e3 R3 y Q' q => ?_) (fun H3 xs ds e3 R3 hD hv hl hP => ?_)⟩
      · refine ⟨_, rfl, _, rfl, _, _, rfl, rfl, a, r, ?_, by omega, R3, fun v d H4 e4 R4 hv hP => q v d H4 e4 R4 hv hP⟩
        have : (2 : Int) - (j : Int) + 1 = 2 - ((j - 1 : Nat) : Int) := by omega
        rw [← this]
        rfl
      · refine ⟨Dl, xs, rfl, .inl ⟨sqO hD, fun tp nt => ?_⟩⟩
        have e5 := same_new (o := .tup xs) nt
        have hall : ∀ d ∈ ds, PartOk (j - 1) d := fun d hd => by
          obtain ⟨m, hm, rfl⟩ := List.mem_iff_getElem.mp hd
          exact hP m _ (by simp [hm])
        have pr := part_row (j := j - 1) (by omega) (by omega) hall
        rw [show j - 1 + 1 = j by omega] at pr
        exact k _ (.tuple ds) _ ((e2.trans e3).trans (but_same e5)) (R3.same e5) (.tup (stO upd_same) (DpAll.mono e5 _ _ hv)) pr
    · refine ⟨_, rfl, _, _, rfl, rfl, _, rfl, ?_⟩
      have q5 : ¬ (4 : Int) < q := by simpa using h2
      refine if_t (decide_eq_true (by omega)) ?_
      exact ⟨_, rfl, a, r, rfl, R1, fun l H2 e2 R2 hn => k _ _ H2 (b1.sb.trans e2) R2 (.str _) (part_nameJ hn)⟩
theorem ok_part (T : Txt P K mg F D C) : ∀ j : Nat, FnOk P w K mg base CX0 (j + 4) (F 28) (D 28) ["row", "depth"] (sp_part K j)
  | 0 => part_step T 0 (fun _ _ _ _ => False) (T.u__law_part.ok sc__law_part (fun vs H Q E h => h.elim) (fun cdv A outer s H vs Q E hr h => h.elim)) (fun h => absurd h (by decide))
  | j + 1 => part_step T (j + 1) (sp_part K j) (ok_part T j) (fun _ => rfl)
theorem strs_back {ls : List (List Nat)} : ∀ {xs : List V}, (∀ v ∈ xs, ∃ l ∈ ls, v = .str (tx l)) → ∃ ms, xs = strsV ms ∧ ∀ m ∈ ms, m ∈ ls
  | [], _ => ⟨[], rfl, fun m h => nomatch h⟩
  | x :: xs, h => by
    obtain ⟨l, hl, rfl⟩ := h x List.mem_cons_self
    obtain ⟨ms, rfl, hm⟩ := strs_back (xs := xs) fun v hv => h v (List.mem_cons_of_mem _ hv)
    refine ⟨l :: ms, rfl, fun m h => ?_⟩
    rcases List.mem_cons.mp h with rfl | h
    · exact hl
    · exact hm m h
def sp_shuffled (K : PySem.W.Frag) : Sp := fun vs H Q _ => ∃ a r p, ∃ ls : List (List Nat), vs = [.ref r, .ref p] ∧ RowI K a r H ∧ H p = some (.lst (strsV ls)) ∧ p ≠ r ∧ ls.length ≤ 1000 ∧
  ∀ q ms H', SameBut r H H' → RowI K a r H' → H p ≠ none → H q = none → ms.length = ls.length → (∀ m ∈ ms, m ∈ ls) → H' q = some (.lst (strsV ms)) → Q (.ref q) H'
theorem sc__law_shuffled : FnScope ["row", "things", "order", "pair", "k"] ["row", "things"] (defScope s__law_shuffled) := ⟨rfl, rfl, rfl, by decide +kernel, rfl, by decide +kernel, by decide +kernel⟩
theorem ok_shuffled (T : Txt P K mg F D C) : FnOk P w K mg base CX0 2 (F 26) (D 26) ["row", "things"] (sp_shuffled K) := by
  have G__law_taken := g_taken (P := P) (w := w) (base := base) T
  refine T.u__law_shuffled.ok sc__law_shuffled (fun vs H Q E h => ?_) (fun cdv A outer s H vs Q E hr h => ?_)
  · obtain ⟨a, r, p, ls, rfl, _⟩ := h
    rfl
  · obtain ⟨a, r, p, ls, rfl, R, hp, hpr, hl, k⟩ := h
    refine ⟨_, (pss_cons (ps_set (i := 2) sc__law_shuffled.nd rfl (.inl rfl) (pe_callB (r := rSortedP K) cr_sortedP (by rfl) T.z_sorted (by decide +kernel) (pa_cons (pe_lc (own := [("k", 4)]) (g := gName 4) (by rfl) sc__law_shuffled.nd (pi_range1 (by rfl) T.z_range (pa_cons (pe_callB (r := rLenQ K) cq_len (by rfl) T.z_len (by decide +kernel) (pa_cons (pv 1) pa_nil)) pa_nil)) (blkOk_by (own := [("k", 4)]) (N := ["row", "things", "order", "pair", "k"]) (sc := defScope s__law_shuffled) (by decide +kernel)) (fun _ _ _ _ _ => (pg_name (i := 4) sc__law_shuffled.nd rfl (.inl rfl))) (fun _ _ _ _ _ => pts_nil) (fun _ _ _ _ _ => (pe_tup (pa_cons (pe_call G__law_taken (hr.mono (by omega)) (by rfl) T.g__law_taken T.u__law_taken.kp T.b__law_taken .nil pass0 (pa_cons (pv 0) (pa_cons pe_int pa_nil))) (pa_cons (pv 4) pa_nil))))) pa_nil)))
      (pss_one (ps_ret (pe_lc (own := [("pair", 3)]) (g := gName 3) (by rfl) sc__law_shuffled.nd (pi_list (pv 2)) (blkOk_by (own := [("pair", 3)]) (N := ["row", "things", "order", "pair", "k"]) (sc := defScope s__law_shuffled) (by decide +kernel)) (fun _ _ _ _ _ => (pg_name (i := 3) sc__law_shuffled.nd rfl (.inl rfl))) (fun _ _ _ _ _ => pts_nil) (fun _ _ _ _ _ => (pe_ix (r := rIxL K) ix_list (pv 1) (pe_ix (r := rIxT K) ix_tup (pv 3) pe_int (fun _ _ => rfl)) (fun _ _ => rfl))))))), ?_⟩
    refine ⟨_, rfl, p, _, rfl, .inl (sqO hp), _, rfl, by rw [strs_len]; omega, by rw [strs_len]; omega, fun Dl nD => ?_⟩
    rw [strs_len, Int.toNat_natCast]
    refine lc_el (K := K) (walk_range0 (n := ls.length)) R nD (fun i H v => ∃ (t : Addr) (m : Int), v = .ref t ∧ H t = some (.tup [.int m, .int (i : Nat)])) (fun i H H' v im ⟨t, m, e, h⟩ => ⟨t, m, e, im t _ rfl h⟩) (by omega) (fun _ _ _ => trivial) (fun _ _ _ _ _ y => y.1) (fun x => rfl) (fun i x H1 hi e1 R1 y Q' q => ?_) (fun H1 xs e1 R1 hD hxl hE => ?_)
    · obtain ⟨_, rfl⟩ := y
      refine ⟨_, rfl, a, r, 1000, rfl, R1, by decide, by decide, fun m H2 m1 m2 b2 R2 => ?_⟩
      refine ⟨_, rfl, (show 2 ≤ sizeLine by decide), fun tp nt => ?_⟩
      exact q _ _ (b2.sb.trans (but_same (same_new nt))) (R2.same (same_new nt)) ⟨tp, m, rfl, upd_same⟩
    · refine ⟨Dl, xs, rfl, sqO hD, fun x hx => ?_, fun ys p2 hperm np2 => ?_⟩
      · obtain ⟨i, hi, rfl⟩ := List.mem_iff_getElem.mp hx
        obtain ⟨t, m, h1, h2⟩ := hE i xs[i] (by simp [hi])
        exact ⟨t, m, _, h1, h2⟩
      · have e2 := same_new (o := .lst ys) np2
        have ys_at : ∀ (i : Nat) (v : V), ys[i]? = some v → ∃ (t : Addr) (m : Int) (j : Nat), v = .ref t ∧ H1 t = some (.tup [.int m, .int (j : Nat)]) ∧ j < ls.length := fun i v hv => by
          have hm : v ∈ xs := hperm.mem_iff.mp (List.mem_of_getElem? hv)
          obtain ⟨j, hj, rfl⟩ := List.mem_iff_getElem.mp hm
          obtain ⟨t, m, h1, h2⟩ := hE j xs[j] (by simp [hj])
          exact ⟨t, m, j, h1, h2, by omega⟩
        have yl : ys.length = ls.length := hperm.length_eq.trans hxl
        refine ⟨_, rfl, p2, rfl, ⟨_, sqO upd_same⟩, fun D2 nD2 => ?_⟩
        refine lc_el (K := K) (walk_list (xs := ys)) (R1.same e2) nD2 (fun _ _ v => ∃ l ∈ ls, v = .str (tx l)) (fun _ _ _ _ _ h => h) (by omega) (fun G eG _ => sqO (eG _ _ (fun q => ?_) upd_same)) (fun _ _ _ _ _ y => y.1) (fun x => rfl) (fun i x H3 hi e3 R3 y Q' q => ?_) (fun H3 zs e3 R3 hD2 hzl hE2 => ?_)
        · obtain ⟨xs', hx'⟩ := R1.some
          rw [← q, np2] at hx'
          cases hx'
        · obtain ⟨t, m, j, rfl, ht, hj⟩ := ys_at i x y.2
          have htr : t ≠ r := fun q => by
            obtain ⟨xs', hx'⟩ := R1.some
            rw [← q, ht] at hx'
            cases hx'
          have hp3 := e3 _ _ hpr (e2 _ _ (e1 _ _ hpr hp))
          have ht3 := e3 _ _ htr (e2 _ _ ht)
          have hat : atI (strsV ls) (j : Int) = some (.str (tx (ls[j]))) := atI_nat (by rw [strs_get]; simp [hj])
          refine ⟨_, rfl, _, rfl, t, _, _, _, rfl, rfl, stO ht3, (show atI [V.int m, V.int (j : Nat)] 1 = some _ from rfl), p, _, _, _, rfl, rfl, sqO hp3, hat, ?_⟩
          exact q _ _ SameBut.refl R3 ⟨_, List.getElem_mem hj, rfl⟩
        · obtain ⟨ms, rfl, hm⟩ := strs_back (ls := ls) (xs := zs) fun v hv => by
            obtain ⟨j, hj, rfl⟩ := List.mem_iff_getElem.mp hv
            exact hE2 j _ (by simp [hj])
          have e03 : SameBut r H H3 := (e1.trans (but_same e2)).trans e3
          refine k D2 ms H3 e03 R3 (by rw [hp]; exact fun h => nomatch h) (none_backR (e1.trans (but_same e2)) (R1.same e2) nD2) ?_ hm hD2
          have := hzl
          rw [strs_len, yl] at this
          exact this
end
end LW
set_option Elab.async false
set_option linter.all false
set_option maxRecDepth 100000
set_option maxHeartbeats 4000000
/-! repr over data: defs that are called where nothing is being shown. -/
namespace L2
open PySem PySem.Spec PyProof.Rows
/-- a promise that holds where no guard of a repr stands below -/
structure FnG (P : Program) (w : World) (K : PySem.W.Frag) (mg : Str → Option Value) (base : Heap) (CX : CXT) (k : Nat) (f : Addr) (fd : FuncData) (ps : List Str) (sp : Sp) : Prop where
  len : ∀ vs H Q E, sp vs H Q E → vs.length = ps.length
  run : ∀ (B : Around) (out : List Env) (s : Shared) (G : Hp) (args : Args) (us : List Value) (vs : List V) (Q : VK) (E : XK), Room k B → B.guards = some [] → Env0 P w K mg base B out s G → BindsTo s fd args (ps.zip us) → Vals vs us → sp vs G Q E →
    codeAny (model P w) B (.call (.ref f) args) (CR CX out P w G s Q E) s
/-- what repr shows of data -/
def rReprD (K : PySem.W.Frag) : List V → Hp → VK → Prop := fun xs H Q => ∃ x d, xs = [x] ∧ Dp K H x d ∧ d.showable = true ∧ d.hasDict = false ∧ d.shown.length ≤ sizeLine ∧ d.depth ≤ 64 ∧ Q (.str d.shown) H
theorem cr_reprD {X : Cx} (hg : X.A.guards = some []) (hun : X.A.units + 70 < cLine) : CallR X (.builtin "repr") (rReprD X.K) := by
  intro pins s σ H xs us Q I r h
  obtain ⟨x, d, rfl, hx, h1, h2, h3, h4, q⟩ := h
  obtain ⟨u, rfl, ru⟩ := vals1 r
  have big : ∀ a : Addr, u = .ref a → wpAny (model X.prog X.w) X.A (call (.builtin "repr") [u]) (EP X pins σ Q) X.xe s := fun a e => by
    obtain ⟨as, rd⟩ := Dp.reads I d x u hx ru
    subst e
    refine repr_of_reads' rd h1 (fun z => by rw [h2] at z; cases z) hg (by omega) (fun _ _ e => e) (fun h' t tk hk => ?_) h3
    exact ⟨.str d.shown, H, I.kept hk, ⟨t, rfl⟩, q⟩
  cases hx with
  | non =>
    cases ru
    rw [PyData.shown] at q
    exact PySem.P.repr_of_none ⟨.str _, H, I.tok _, ⟨_, rfl⟩, q⟩
  | bl b =>
    cases ru
    rw [PyData.shown] at q
    exact PySem.P.repr_of_bool ⟨.str _, H, I.tok _, ⟨_, rfl⟩, q⟩
  | int i =>
    obtain ⟨t, rfl⟩ := ru
    rw [PyData.shown] at q
    rw [PyData.showable] at h1
    exact PySem.P.repr_of_int (of_decide_eq_true h1) ⟨.str _, H, I.tok _, ⟨_, rfl⟩, q⟩
  | str z =>
    obtain ⟨t, rfl⟩ := ru
    rw [PyData.shown] at q h3
    exact PySem.P.repr_of_str ⟨.str _, H, I.tok _, ⟨_, rfl⟩, q⟩ h3
  | lst sx ax =>
    cases ru
    exact big _ rfl
  | tup sx ax =>
    cases ru
    exact big _ rfl
/-- a def of the text, called where nothing is being shown -/
theorem fnG_of {CX : CXT} {P : Program} {w : World} {K : PySem.W.Frag} {mg : Str → Option Value} {base : Heap} {k : Nat} {x qual : Str} {st : Stmt} {f : Addr} {fd : FuncData} {N ps : List Str} {sp : Sp} (F : Fun K x qual st f fd) (S : FnScope N ps (defScope st))
    (len : ∀ vs H Q E, sp vs H Q E → vs.length = ps.length)
    (body : ∀ (cdv : Value) (B : Around) (out : List Env) (s : Shared) (G : Hp) (vs : List V) (Q : VK) (E : XK), Room k (B.deeper (envOfC qual (defScope st) s.heap.objs.size f cdv)) → B.guards = some [] → sp vs G Q E →
      ∃ t, PSs (cxOf CX P w K mg base N qual (defScope st) f cdv B out s G E) (defBody st) t ∧ t { nx := fun _ G' => Q .non G', rt := Q } (start N vs) G) : FnG P w K mg base CX (k + 1) f fd ps sp := by
  obtain ⟨oc, od, kV, doc, pm, an, cdv, ct, osl, rfl, lk, hcd⟩ := F.ex
  refine ⟨len, fun B out s G args us vs Q E room guards env binds vals promise => ?_⟩
  have hlen := len _ _ _ _ promise
  have kin : K.In s.heap := env.mod.kin.keeps fun b o e => (env.bs b o e).1
  have nolim : s.heap.NoLimit := env.mod.nolimit.keeps fun b o e => (env.bs b o e).1
  refine codeAny_call_function room.depth (kin _ _ lk) rfl S.co S.gen rfl (PySem.W.codeRec_of kin hcd) (binds _ _ _ _ ?_)
  refine wpAny_newFunctionEnv_cells S.kind (fun y hy => ?_) fun env2 he s1 made => ?_
  · obtain ⟨n, v⟩ := y
    exact (S.par n (List.of_mem_zip hy).1).elim .inl fun q => .inr ⟨q, PySem.W.cellsFrom_some _ _ _ (.inl q)⟩
  · subst he
    refine ⟨nolim.keeps made.toInCall.keep, codeAny_func ?_⟩
    obtain ⟨t, derived, reading⟩ := body cdv B out s G vs Q E (room.deeper _) guards promise
    refine wpAny_mono (derived.run [] s1 (start N vs) G _ (inv_start S room.hd env hlen vals made) reading) (fun how s2 z => ?_) fun _ _ z => z
    match how, z with
    | .ret u, ⟨v, _, G', J, rv, q⟩ => exact ⟨v, G', J.os, J.bare, J.base, J.hok, rv, q⟩
    | .next, ⟨_, G', J, q⟩ => exact ⟨V.non, G', J.os, J.bare, J.base, J.hok, rfl, q⟩
    | .brk, ⟨_, _, _, q⟩ => exact q.elim
    | .cont, ⟨_, _, _, q⟩ => exact q.elim
theorem fnG0 {P : Program} {w : World} {K : PySem.W.Frag} {mg : Str → Option Value} {base : Heap} {k : Nat} {x qual : Str} {st : Stmt} {f : Addr} {fd : FuncData} {N ps : List Str} {sp : Sp} (F : Fun K x qual st f fd) (S : FnScope N ps (defScope st))
    (len : ∀ vs H Q E, sp vs H Q E → vs.length = ps.length)
    (body : ∀ (cdv : Value) (B : Around) (out : List Env) (s : Shared) (G : Hp) (vs : List V) (Q : VK) (E : XK), Room k (B.deeper (envOfC qual (defScope st) s.heap.objs.size f cdv)) → B.guards = some [] → sp vs G Q E →
      ∃ t, PSs (cxOf CX0 P w K mg base N qual (defScope st) f cdv B out s G E).nox (defBody st) t ∧ t { nx := fun _ G' => Q .non G', rt := Q } (start N vs) G) : FnG P w K mg base CX0 (k + 1) f fd ps sp :=
  fnG_of F S len fun cdv B out s G vs Q E room guards promise =>
    let ⟨t, a, b⟩ := body cdv B out s G vs Q E room guards promise
    ⟨t, a.nox, b⟩
section
variable {X : Cx} {CX : CXT} {k : Nat} {f : Addr} {fd : FuncData} {ps : List Str} {sp : Sp} {E : XK}
theorem pe_callG {x : Str} {p pos : Pos} {e : Expr} {es : List Expr} {t : TA} (F : FnG X.prog X.w X.K X.mg X.base CX k f fd ps sp) (hr : Room k X.A) (hg0 : X.A.guards = some []) (hg : Gl X x) (hm : X.mg x = some (.ref f)) (hk : PySem.W.keepIn X.K (.ref f) = true) (hb : Binds X.K fd ps []) (hx : Passes CX X E)
    (ha : PA X (e :: es) t) (hdb : (x == ("__debug__" : Str)) = false := by decide) (he : starEach (e :: es) X.env = (false, eval e X.env) :: starEach es X.env := by rfl) (hpl : (backTo pos (starEach es X.env)).any (·.1) = false := by rfl) :
    PE X (.Call (.Name x p) (e :: es) [] pos) (tCall sp [] E t) := by
  refine ⟨fun pins s σ G Q J h => wpAny_Call_Name_kw (ld_glob J hg hm ?_ hdb)⟩
  refine PySem.W.callWith_K (h₀ := X.base) J.ok.mod.kin hk (thn (ha.run pos pins s σ G _ J h) fun us s1 ⟨vs, G1, J1, r, q⟩ => ⟨J1.kIn, ?_⟩) he hpl
  have r2 : Vals (vs ++ []) (us ++ []) := r.append .nil
  refine wpAny_call (codeAny_mono (F.run X.A X.stack s1 G1 ⟨us, []⟩ (us ++ []) (vs ++ []) Q E hr hg0 J1.env0 (hb s1 us J1.kIn (by rw [← r2.length]; exact F.len _ _ _ _ q)) r2 q) fun how s2 z => ?_)
  match how, z with
  | .error e, z => exact hx pins σ G1 s1 e s2 J1 z
  | .ok (.ret u), z => exact J1.after z
  | .ok .next, z => exact False.elim z
  | .ok .brk, z => exact False.elim z
  | .ok .cont, z => exact False.elim z
end
/-- the law's start: what stands around its call -/
theorem start_env {P : Program} {w : World} {K : PySem.W.Frag} {mg mb : Str → Option Value} {a : Addr} {s0 : Shared} {vs : List Value} {G : Hp}
    (kin : K.In s0.heap) (nsg : s0.heap.Ns mainGlobals mg) (nsb : s0.heap.Ns builtinsNs mb) (boot : ∀ y : Str, y ≠ "__name__" → mb y = bootBuiltins y) (nolim : s0.heap.NoLimit) (nogen : s0.gens = #[])
    (at_a : s0.heap.get? a = some { cls := .type "list", data := .seq vs.toArray }) (ok : HOk P w G s0.heap) (only : ∀ b, G b ≠ none → b = a) (free : G a ≠ none → K.lookup a = none) :
    Env0 P w K mg (hidT s0.heap G) callerA [] s0 G ∧ K.In (hidT s0.heap G) ∧ (hidT s0.heap G).Ns mainGlobals mg := by
  have cases_at : ∀ b, G b = none ∨ b = a := fun b => by
    cases z : G b with
    | none => exact .inl rfl
    | some u => exact .inr (only b (by rw [z]; exact fun q => nomatch q))
  have nspace : ∀ {b : Addr} {m : Str → Option Value}, s0.heap.Ns b m → (hidT s0.heap G).Ns b m := fun {b m} ⟨o, es, ep, e1, e2, e3⟩ => by
    rcases cases_at b with z | rfl
    · exact ⟨o, es, ep, hidT_get e1 z, e2, e3⟩
    · rw [at_a] at e1
      cases e1
      exact nomatch (show Data.seq vs.toArray _ = Data.dict es ep from e2)
  have kin2 : K.In (hidT s0.heap G) := fun b o e => by
    rcases cases_at b with z | rfl
    · exact hidT_get (kin b o e) z
    · cases z : G b with
      | none => exact hidT_get (kin b o e) z
      | some u =>
        rw [free (by rw [z]; exact fun q => nomatch q)] at e
        cases e
  have module : Mod K mg (hidT s0.heap G) := ⟨kin2, nspace nsg, ⟨mb, nspace nsb, boot⟩, by
    obtain ⟨mc, l1, l2⟩ := nolim
    exact ⟨mc, nspace l1, l2⟩⟩
  exact ⟨⟨rfl, module, fun _ _ e => of_hidT e, Nat.le_of_eq (hidT_size _ _), trivial, (fun b hb => nomatch hb), ok, .of_eq nogen⟩, kin2, nspace nsg⟩
theorem law_callG {P : Program} {w : World} {K : PySem.W.Frag} {mg mb : Str → Option Value} {CX : CXT} {k : Nat} {fa a : Addr} {fd : FuncData} {x : Str} {sp : Sp} {s0 : Shared} {vs : List Value} {ns : List Int}
    (kin : K.In s0.heap) (nsg : s0.heap.Ns mainGlobals mg) (nsb : s0.heap.Ns builtinsNs mb) (boot : ∀ y : Str, y ≠ "__name__" → mb y = bootBuiltins y) (nolim : s0.heap.NoLimit) (nogen : s0.gens = #[])
    (at_a : s0.heap.get? a = some { cls := .type "list", data := .seq vs.toArray }) (intsA : IntsAre vs ns) (size : ns.length ≤ sizeLine) (room : Room k callerA)
    (F : ∀ base : Heap, K.In base → base.Ns mainGlobals mg → FnG P w K mg base CX k fa fd [x] sp) (binds : ∀ (s : Shared) (u : Value), BindsTo s fd ⟨[u], []⟩ [(x, u)])
    (promise : ∀ G : Hp, Only G → SqL K G a (ns.map V.int) → sp [.ref a] G (fun v _ => v = .bl true) fun _ _ _ => False) (quiet : ∀ G e s', CX [] G s0 (fun _ _ _ => False) e s' → False) :
    codeAny (model P w) callerA (.call (.ref fa) ⟨[.ref a], []⟩) (fun r s' => r = .ok (.ret (.bool true)) ∧ OldK s0.heap s'.heap ∧ s'.os = s0.os ∧ AllBare s'.gens) s0 := by
  have vals := vals_ints intsA
  have fin : ∀ G : Hp, Only G → SqL K G a (ns.map V.int) → HOk P w G s0.heap → (∀ b, G b ≠ none → b = a) → (G a ≠ none → K.lookup a = none) →
      codeAny (model P w) callerA (.call (.ref fa) ⟨[.ref a], []⟩) (fun r s' => r = .ok (.ret (.bool true)) ∧ OldK s0.heap s'.heap ∧ s'.os = s0.os ∧ AllBare s'.gens) s0 := fun G one at_G ok only free => by
    obtain ⟨env, kin2, nsg2⟩ := start_env kin nsg nsb boot nolim nogen at_a ok only free
    refine codeAny_mono ((F _ kin2 nsg2).run callerA [] s0 G ⟨[.ref a], []⟩ [.ref a] [.ref a] _ _ room rfl env (binds s0 (.ref a)) (.cons rfl .nil) (promise G one at_G)) fun how s2 z => ?_
    match how, z with
    | .error e, z => exact (quiet G e s2 z).elim
    | .ok .next, z => exact False.elim z
    | .ok .brk, z => exact False.elim z
    | .ok .cont, z => exact False.elim z
    | .ok (.ret u), ⟨v, G', os, bare, un, ok2, rv, q⟩ =>
      obtain rfl : v = .bl true := q
      obtain rfl : u = Value.bool true := rv
      refine ⟨rfl, OldK.of_keep fun b o e => ?_, os, bare⟩
      rcases one b with z | ⟨ob, xs, z⟩
      · exact un.keep b o e z (fun m => nomatch m) (fun m => nomatch m)
      · have e1 := (ok b _ z).1
        have e2 := (ok2 b _ (un.frzs b ob _ z)).1
        rw [e] at e1
        cases e1
        exact e2
  cases own : K.lookup a with
  | some o =>
    have e := kin a o own
    rw [at_a] at e
    cases e
    exact fin (fun _ => none) (fun _ => .inl rfl) (.inr ⟨_, vs.toArray, _, own, rfl, rfl, rfl, by rw [List.size_toArray, intsA.length]; exact size, by simpa using vals⟩) (fun b u z => nomatch z) (fun b z => absurd rfl z) fun z => absurd rfl z
  | none =>
    have pick : ∀ b, (if b = a then some (HO.frz { cls := .type "list", data := .seq vs.toArray } (.lst (ns.map V.int))) else none) ≠ none → b = a := fun b z => by
      by_cases q : b = a
      · exact q
      · exact absurd (if_neg q) z
    refine fin (fun b => if b = a then some (HO.frz { cls := .type "list", data := .seq vs.toArray } (.lst (ns.map V.int))) else none) (fun b => ?_) (.inl (.inr ⟨_, if_pos rfl⟩)) (fun b u z => ?_) pick fun _ => own
    · by_cases q : b = a
      · exact .inr ⟨_, _, if_pos q⟩
      · exact .inl (if_neg q)
    · obtain rfl := pick b fun q => nomatch (z.symm.trans q)
      have z2 := (if_pos rfl).symm.trans z
      cases z2
      exact ⟨at_a, by rw [List.length_map]; exact size, vs, _, vals, at_a⟩
theorem walk_ofG {l : PySem.W.OpenLaw} {n k : Nat} {q : Program} {loose : List Str} {XP : (Str → Option Value) → Heap → Prop} {YP : World → Heap → Prop} {d : DefRec} {K : Params → PySem.W.Frag} {CX : CXT} {sp : PySem.W.Frag → Sp} {x : Str}
    (most : l.most = some n) (size : n ≤ sizeLine) (dflt : d.params.defaults = []) (room : Room k callerA) (kin : ∀ (w : World) (h : Heap), YP w h → (K w.params).In h)
    (F : ∀ (w : World) (mg : Str → Option Value) (fa : Addr) (h : Heap), (K w.params).In h → h.Ns mainGlobals mg → mg d.name = some (.ref fa) →
      ∃ fd : FuncData, (∀ (s : Shared) (u : Value), BindsTo s fd ⟨[u], []⟩ [(x, u)]) ∧ ∀ base : Heap, (K w.params).In base → base.Ns mainGlobals mg → FnG l.prog w (K w.params) mg base CX k fa fd [x] (sp (K w.params)))
    (promise : ∀ (K : PySem.W.Frag) (G : Hp) (a : Addr) (ns : List Int), ns.length ≤ n → Only G → SqL K G a (ns.map V.int) → sp K [.ref a] G (fun v _ => v = .bl true) fun _ _ _ => False)
    (quiet : ∀ (G : Hp) (s : Shared) (e : Value) (s' : Shared), CX [] G s (fun _ _ _ => False) e s' → False) : PySem.W.WalkO q loose XP YP l.row.toRowW d [] (fun f vs => PySem.call f vs) := by
  refine Att.attach_call most dflt fun w s₀ s1 mg mb fa o pm cd doc a vs ns T Y ho hd hcd main obj intsA len nogen => ?_
  obtain ⟨fd, binds, run⟩ := F w mg fa _ (kin w _ Y) T.T.g main
  exact law_callG (kin w _ Y) T.T.g T.T.b T.T.builtins T.T.nolimit nogen obj intsA (Nat.le_trans len size) room run binds (fun G one at_G => promise _ G a ns len one at_G) fun G e s' => quiet G s1 e s'
end L2
set_option Elab.async false
set_option linter.all false
set_option maxRecDepth 100000
set_option maxHeartbeats 4000000
/-! Methods called and objects made where what is raised is taken. -/
namespace L2
open PySem PySem.Spec PyProof.Rows
section
variable {X : Cx} {CX : CXT} {k : Nat} {f C : Addr} {fd : FuncData} {ps : List Str} {sp : Sp} {E : St → XK} {x m : Str} {p pos apos : Pos} {e o : Expr} {es : List Expr} {ta : TE} {t : TA}
def tMethE (C : Addr) (m : Str) (sp : Sp) (E : St → XK) (ta : TE) (t : TA) : TE := fun τ G Q => ta τ G fun y G1 => ∃ a dx fs, y = .ref a ∧ G1 a = some (.ins C dx fs) ∧ fs.lookup m = none ∧ t τ G1 fun ys G2 => sp (y :: ys) G2 Q (E τ)
theorem pe_methE {pl : Sem Bool} (ho : PE X o ta) (cl : Cls X.K C) (hm : Meth X.K C m f) (F : FnOk X.prog X.w X.K X.mg X.base CX k f fd ps sp) (hr : Room k X.A) (hb : Binds X.K fd ps []) (hx : ∀ τ, PassesAt CX X τ (E τ)) (ha : PA X (e :: es) t)
    (h1 : starEach (e :: es) X.env = (false, eval e X.env) :: starEach es X.env := by rfl) (h2 : (backTo pos (starEach es X.env)).any (·.1) = false := by rfl)
    (h3 : eval (.Call (.Attribute o m apos) (e :: es) [] pos) X.env = (do
      let it ← eval o X.env
      standAt apos.atName
      let (g, fst) ← holding [it] (getMethod it m pl)
      callWith pos g fst (backTo pos (starEach (e :: es) X.env)) (backToKw pos (keywordEach [] X.env))) := by rfl) :
    PE X (.Call (.Attribute o m apos) (e :: es) [] pos) (tMethE C m sp E ta t) := by
  refine ⟨fun pins s τ G Q J h => PySem.W.methodCall_KW (pl := pl) (thn (ho.run pins s τ G _ J h) fun u s1 ⟨y, G1, J1, ry, a, dx, fs, ey, ea, l, q⟩ => ?_) h3⟩
  subst ey
  obtain rfl : u = Value.ref a := ry
  exact getmeth_ok J1 ea cl hm l (PySem.W.callWith_K (first := [.ref a]) (h₀ := X.base) J.ok.mod.kin hm.kp (thn (ha.run pos pins s1 τ G1 _ J1 q) fun us s2 ⟨ys, G2, J2, r, q2⟩ => ⟨J2.kIn, run_fnS (us := .ref a :: us) (vs := .ref a :: ys) F hr hb (hx τ) J2 (.cons rfl r) q2⟩) h1 h2)
def tMakeE (C : Addr) (sp : Sp) (E : St → XK) (t : TA) : TE := fun τ G Q => t τ G fun ys G1 => ∀ y dx, G1 y = none → G1 dx = none → dx ≠ y → sp (.ref y :: ys) (upd (upd G1 dx (.own y)) y (.ins C dx [])) (fun v G2 => v = .non ∧ Q (.ref y) G2) (E τ)
theorem run_makeE {pins : List (Addr × Obj)} {τ : St} {G : Hp} {s : Shared} {Q : VK} {us : List Value} {ys : List V} (M : Mk X.K C f) (F : FnOk X.prog X.w X.K X.mg X.base CX k f fd ps sp) (hr : Room (k + 1) X.A) (hb : Binds X.K fd ps []) (hx : PassesAt CX X τ (E τ)) (J : Inv X pins τ G s) (r : Vals ys us)
    (h : ∀ y dx, G y = none → G dx = none → dx ≠ y → sp (.ref y :: ys) (upd (upd G dx (.own y)) y (.ins C dx [])) (fun v G2 => v = .non ∧ Q (.ref y) G2) (E τ)) : wpAny (model X.prog X.w) X.A (call (.ref C) us) (EP X pins τ Q) X.xe s := by
  have promise := h (s.heap.objs.size + 1) s.heap.objs.size (J.hok.fresh (Nat.le_succ _)) (J.hok.fresh (Nat.le_refl _)) (Nat.ne_of_lt (Nat.lt_succ_self _))
  have J2 := Inv.made (C := C) J
  have r2 : Vals (V.ref (s.heap.objs.size + 1) :: ys) (Value.ref (s.heap.objs.size + 1) :: us) := .cons rfl r
  have len : (Value.ref (s.heap.objs.size + 1) :: us).length = ps.length := by rw [← r2.length]; exact F.len _ _ _ _ promise
  have bind := hb _ (Value.ref (s.heap.objs.size + 1) :: us) J2.kIn (by rw [List.append_nil]; exact len)
  rw [List.append_nil] at bind
  refine wpAny_call (make_map (f := f) J.kIn M.makes M.init (beq_iff_eq.mp M.fn) (codeAny_mono (F.run _ X.stack _ _ ⟨Value.ref (s.heap.objs.size + 1) :: us, []⟩ _ _ _ (E τ) (hr.make C us []) (J2.env0.make C us []) bind r2 promise) fun how s2 z => ?_))
  match how, z with
  | .error e, z => exact hx pins _ _ e s2 J2 z
  | .ok (.ret u), z =>
    obtain ⟨v, G', J3, rv, ev, q⟩ := J2.after z
    subst ev
    exact ⟨rv, ⟨V.ref (s.heap.objs.size + 1), G', J3, rfl, q⟩⟩
  | .ok .next, z => exact False.elim z
  | .ok .brk, z => exact False.elim z
  | .ok .cont, z => exact False.elim z
theorem pe_makeE (M : Mk X.K C f) (F : FnOk X.prog X.w X.K X.mg X.base CX k f fd ps sp) (hr : Room (k + 1) X.A) (hg : Gl X x) (hm : X.mg x = some (.ref C)) (hb : Binds X.K fd ps []) (hx : ∀ τ, PassesAt CX X τ (E τ)) (ha : PA X (e :: es) t)
    (hdb : (x == ("__debug__" : Str)) = false := by decide) (h1 : starEach (e :: es) X.env = (false, eval e X.env) :: starEach es X.env := by rfl) (h2 : (backTo pos (starEach es X.env)).any (·.1) = false := by rfl) :
    PE X (.Call (.Name x p) (e :: es) [] pos) (tMakeE C sp E t) :=
  ⟨fun pins s τ G Q J h => wpAny_Call_Name_kw (ld_glob J hg hm (PySem.W.callWith_K (h₀ := X.base) J.ok.mod.kin M.kp (thn (ha.run pos pins s τ G _ J h) fun us s1 ⟨ys, G1, J1, r, q⟩ => ⟨J1.kIn, run_makeE M F hr hb (hx τ) J1 r q⟩) h1 h2) hdb)⟩
/-- a statement's reading kept closed: so that a loop around it finds it -/
def tWrap (t : TS) : TS := t
theorem ps_wrap {st : Stmt} {t : TS} (h : PS X st t) : PS X st (tWrap t) := h
end
end L2
set_option Elab.async false
set_option linter.all false
set_option maxRecDepth 100000
set_option maxHeartbeats 8000000
/-! k11: _law_refused. -/
namespace LW
open PySem L2
section
variable {P : Program} {w : World} {K : PySem.W.Frag} {mg : Str → Option Value} {base : Heap} {F : Nat → Addr} {D : Nat → FuncData} {C : Nat → Addr}
/-- data that repr shows -/
structure Sh (d : PyData) : Prop where
  s : d.showable = true
  h : d.hasDict = false
  l : d.shown.length ≤ sizeLine
  d : d.depth ≤ 64
theorem sh_str {z : Str} (h : (reprText z).length ≤ sizeLine) : Sh (.str z) := ⟨rfl, rfl, by rw [PyData.shown]; exact h, by rw [PyData.depth]; decide⟩
def badE : List PyData := [.list [.str "a"], .tuple [.str "A"], .tuple [.bool true], .tuple [.none], .int 5, .tuple [.str "a", .list [.str "b"]]]
theorem badE_ok : ∀ d ∈ badE, Sh d ∧ wrD d = false ∧ wOk 20 d := by
  intro d hd
  simp only [badE, List.mem_cons, List.not_mem_nil, or_false] at hd
  rcases hd with rfl | rfl | rfl | rfl | rfl | rfl
  all_goals refine ⟨⟨by decide +kernel, by decide +kernel, by decide +kernel, by decide +kernel⟩, by decide +kernel, ?_⟩
  · trivial
  · exact ⟨by decide, fun e he => by rw [List.mem_singleton.mp he]; show Str.length _ ≤ 100000; decide +kernel⟩
  · exact ⟨by decide, fun e he => by rw [List.mem_singleton.mp he]; trivial⟩
  · exact ⟨by decide, fun e he => by rw [List.mem_singleton.mp he]; trivial⟩
  · trivial
  · refine ⟨by decide, fun e he => ?_⟩
    simp only [List.mem_cons, List.not_mem_nil, or_false] at he
    rcases he with rfl | rfl
    · show Str.length _ ≤ 100000
      decide +kernel
    · trivial
def badL : List PyData := [.str "", .str "a", .str "a 02", .str "a  01", .str "(a 01", .none, .int 5, .str "a 1", .str "01 99", .str "A 01", .str "a) 01"]
theorem badL_ok : ∀ d ∈ badL, Sh d ∧ fits d ∧ evD d = none := by
  intro d hd
  simp only [badL, List.mem_cons, List.not_mem_nil, or_false] at hd
  rcases hd with rfl | rfl | rfl | rfl | rfl | rfl | rfl | rfl | rfl | rfl | rfl
  all_goals refine ⟨⟨by decide +kernel, by decide +kernel, by decide +kernel, by decide +kernel⟩, ?_, by decide +kernel⟩
  all_goals first | trivial | exact (by decide +kernel : _ ∧ _)
def badT : List PyData := [.none, .str "a 01", .int 5]
theorem badT_ok : ∀ d ∈ badT, Sh d ∧ ∀ z, d = .str z → z.length ≤ 1000 ∧ ∃ c, z.cps.toList.getLast? = some c ∧ c ≠ 10 := by
  intro d hd
  simp only [badT, List.mem_cons, List.not_mem_nil, or_false] at hd
  rcases hd with rfl | rfl | rfl
  all_goals refine ⟨⟨by decide +kernel, by decide +kernel, by decide +kernel, by decide +kernel⟩, ?_⟩
  · exact fun z h => nomatch h
  · intro z h
    cases h
    exact ⟨by decide +kernel, 49, by decide +kernel, by decide⟩
  · exact fun z h => nomatch h
def sp_refused (K : PySem.W.Frag) (C2 : Addr) : Sp := fun vs H Q _ => ∃ a ls, vs = [.ref a] ∧ arcAt K C2 H a ls ∧ ∀ H', Q (.bl true) H'
theorem sc__law_refused : FnScope ["made", "value", "e"] ["made"] (defScope s__law_refused) := ⟨rfl, rfl, rfl, by decide +kernel, rfl, by decide +kernel, by decide +kernel⟩
theorem ok_refused (T : Txt P K mg F D C) : FnG P w K mg base CX0 40 (F 31) (D 31) ["made"] (sp_refused K (C 2)) := by
  have G_event_in := ok_event_in (P := P) (w := w) (base := base) T
  have G_read_text := ok_read (P := P) (w := w) (base := base) T
  have G_Archive___init__ := ok_init (P := P) (w := w) (base := base) T
  have G_Archive_with_event := ok_with (P := P) (w := w) (base := base) T
  refine fnG0 T.u__law_refused sc__law_refused (fun vs H Q E h => ?_) (fun cdv A outer s H vs Q E hr hgd h => ?_)
  · obtain ⟨a, ls, rfl, _⟩ := h
    rfl
  · obtain ⟨a, ls, rfl, ha, k⟩ := h
    have hun : A.units + 3 + 70 < cLine := by have := hr.un; show A.units + 3 + 70 < cLine; exact Nat.lt_of_le_of_lt (by show A.units + 3 + 70 ≤ A.units + 3 + 16 * 39 + 200; omega) this
    refine ⟨_, (pss_cons (ps_for PassesOwn.never rfl (pi_list (pe_lst (pa_cons (pe_lst (pa_cons pe_str pa_nil)) (pa_cons (pe_tup (pa_cons pe_str pa_nil)) (pa_cons (pe_tup (pa_cons pe_bl pa_nil)) (pa_cons (pe_tup (pa_cons pe_non pa_nil)) (pa_cons pe_int (pa_cons (pe_tup (pa_cons pe_str (pa_cons (pe_lst (pa_cons pe_str pa_nil)) pa_nil))) pa_nil)))))))) (pg_name (i := 1) sc__law_refused.nd rfl (.inl rfl))
        (pss_one (ps_wrap (ps_try_as (i := 2) (Wout := fun _ _ _ _ => False) rfl rfl sc__law_refused.nd rfl rfl ⟨rfl, by decide, .inl T.c_BadNote⟩ takes0
          (fun W pn xx tk xe => (pss_cons (ps_expr (pe_methE (pv 0) T.cl_Archive T.mt_Archive_with_event G_Archive_with_event (hr.mono (by omega)) T.b_Archive_with_event (fun σ => passAt tk σ) (by exact (pa_cons (pv 1) pa_nil))))
          (pss_one (ps_ret pe_bl))))
          (fun a oe cls d pn hz hf => (pss_one (ps_if (pt_cmpR op_ne (pe_callB (r := rReprD K) (cr_reprD hgd hun) (by rfl) T.z_repr (by decide +kernel) (pa_cons (pe_byErr hz hf (pv 2)) pa_nil)) (pe_callB (r := rReprD K) (cr_reprD hgd hun) (by rfl) T.z_repr (by decide +kernel) (pa_cons (pv 1) pa_nil)) (nomark _)) (pss_one (ps_ret pe_bl))
            pss_nil)))))))
      (pss_cons (ps_for PassesOwn.never rfl (pi_list (pe_lst (pa_cons pe_str (pa_cons pe_str (pa_cons pe_str (pa_cons pe_str (pa_cons pe_str (pa_cons pe_non (pa_cons pe_int (pa_cons pe_str (pa_cons pe_str (pa_cons pe_str (pa_cons pe_str pa_nil))))))))))))) (pg_name (i := 1) sc__law_refused.nd rfl (.inl rfl))
        (pss_one (ps_wrap (ps_try_as (i := 2) (Wout := fun _ _ _ _ => False) rfl rfl sc__law_refused.nd rfl rfl ⟨rfl, by decide, .inl T.c_BadNote⟩ takes0
          (fun W pn xx tk xe => (pss_cons (ps_expr (pe_callS G_event_in (hr.mono (by omega)) (by rfl) T.g_event_in T.u_event_in.kp T.b_event_in (fun σ => passAt tk σ) (by exact (pa_cons (pv 1) pa_nil))))
          (pss_one (ps_ret pe_bl))))
          (fun a oe cls d pn hz hf => (pss_one (ps_if (pt_cmpR op_ne (pe_callB (r := rReprD K) (cr_reprD hgd hun) (by rfl) T.z_repr (by decide +kernel) (pa_cons (pe_byErr hz hf (pv 2)) pa_nil)) (pe_callB (r := rReprD K) (cr_reprD hgd hun) (by rfl) T.z_repr (by decide +kernel) (pa_cons (pv 1) pa_nil)) (nomark _)) (pss_one (ps_ret pe_bl))
            pss_nil)))))))
      (pss_cons (ps_for PassesOwn.never rfl (pi_list (pe_lst (pa_cons pe_non (pa_cons pe_str (pa_cons pe_int pa_nil))))) (pg_name (i := 1) sc__law_refused.nd rfl (.inl rfl))
        (pss_one (ps_wrap (ps_try_as (i := 2) (Wout := fun _ _ _ _ => False) rfl rfl sc__law_refused.nd rfl rfl ⟨rfl, by decide, .inl T.c_BadNote⟩ takes0
          (fun W pn xx tk xe => (pss_cons (ps_expr (pe_callS G_read_text (hr.mono (by omega)) (by rfl) T.g_read_text T.u_read_text.kp T.b_read_text (fun σ => passAt tk σ) (by exact (pa_cons (pv 1) pa_nil))))
          (pss_one (ps_ret pe_bl))))
          (fun a oe cls d pn hz hf => (pss_one (ps_if (pt_cmpR op_ne (pe_callB (r := rReprD K) (cr_reprD hgd hun) (by rfl) T.z_repr (by decide +kernel) (pa_cons (pe_byErr hz hf (pv 2)) pa_nil)) (pe_callB (r := rReprD K) (cr_reprD hgd hun) (by rfl) T.z_repr (by decide +kernel) (pa_cons (pv 1) pa_nil)) (nomark _)) (pss_one (ps_ret pe_bl))
            pss_nil)))))))
      (pss_one (ps_wrap (ps_try_as (i := 2) (Wout := fun _ _ _ _ => False) rfl rfl sc__law_refused.nd rfl rfl ⟨rfl, by decide, .inl T.c_TooMany⟩ takes0
        (fun W pn xx tk xe => (pss_cons (ps_expr (pe_makeE T.m_Archive G_Archive___init__ (hr.mono (by omega)) (by rfl) T.c_Archive T.b_Archive___init__ (fun σ => passAt tk σ) (by exact (pa_cons (pe_op op_rep (pe_lst (pa_cons pe_str pa_nil)) pe_int) pa_nil))))
        (pss_one (ps_ret pe_bl))))
        (fun a oe cls d pn hz hf => (pss_one (ps_ret (pe_cmpR op_eq (pe_byErr hz hf (pv 2)) pe_int (nomark _))))))))))), ?_⟩
    obtain ⟨dxa, ta, haa, hta, hL⟩ := ha
    refine ⟨(show 1 ≤ sizeLine by decide), fun p1 n1 => ⟨(show 1 ≤ sizeLine by decide), fun p2 n2 => ⟨(show 1 ≤ sizeLine by decide), fun p3 n3 => ⟨(show 1 ≤ sizeLine by decide), fun p4 n4 => ⟨(show 1 ≤ sizeLine by decide), fun p5 n5 => ⟨(show 2 ≤ sizeLine by decide), fun p6 n6 => ⟨(show 6 ≤ sizeLine by decide), fun p7 n7 => ?_⟩⟩⟩⟩⟩⟩⟩
    have e6 := same_new (o := .lst [V.ref p1, V.ref p2, V.ref p3, V.ref p4, V.int 5, V.ref p6]) n7
    have e5 := (same_new (o := .tup [V.str "a", V.ref p5]) n6).trans e6
    have e4 := (same_new (o := .lst [V.str "b"]) n5).trans e5
    have e3 := (same_new (o := .tup [V.non]) n4).trans e4
    have e2 := (same_new (o := .tup [V.bl true]) n3).trans e3
    have e1 := (same_new (o := .tup [V.str "A"]) n2).trans e2
    have e0 := (same_new (o := .lst [V.str "a"]) n1).trans e1
    have hvals : DpAll K _ [V.ref p1, V.ref p2, V.ref p3, V.ref p4, V.int 5, V.ref p6] badE :=
      .cons (.lst (sqO (e1 _ _ upd_same)) (.cons (.str _) .nil)) (.cons (.tup (stO (e2 _ _ upd_same)) (.cons (.str _) .nil)) (.cons (.tup (stO (e3 _ _ upd_same)) (.cons (.bl _) .nil)) (.cons (.tup (stO (e4 _ _ upd_same)) (.cons .non .nil)) (.cons (.int _) (.cons (.tup (stO (e6 _ _ upd_same)) (.cons (.str _) (.cons (.lst (sqO (e5 _ _ upd_same)) (.cons (.str _) .nil)) .nil))) .nil)))))
    refine ⟨p7, rfl, ⟨_, sqO upd_same⟩, ?_⟩
    have hp7 := upd_same (H := upd (upd (upd (upd (upd (upd H p1 (.lst [V.str "a"])) p2 (.tup [V.str "A"])) p3 (.tup [V.bl true])) p4 (.tup [V.non])) p5 (.lst [V.str "b"])) p6 (.tup [V.str "a", V.ref p5])) (a := p7) (o := HO.lst [V.ref p1, V.ref p2, V.ref p3, V.ref p4, V.int 5, V.ref p6])
    change Exists _
    generalize upd (upd (upd (upd (upd (upd (upd H p1 (.lst [V.str "a"])) p2 (.tup [V.str "A"])) p3 (.tup [V.bl true])) p4 (.tup [V.non])) p5 (.lst [V.str "b"])) p6 (.tup [V.str "a", V.ref p5])) p7 (HO.lst [V.ref p1, V.ref p2, V.ref p3, V.ref p4, V.int 5, V.ref p6]) = H1 at e0 hvals hp7 ⊢
    refine for_it (walk_list (xs := [V.ref p1, V.ref p2, V.ref p3, V.ref p4, V.int 5, V.ref p6])) (fun i σ G => Same H1 G ∧ ∃ b, σ = [some (.ref a), b, none]) ⟨Same.refl _, none, rfl⟩ (fun i σ G hi h => sqO (h.1 _ _ hp7)) ?_ ?_
    · rintro i x σ G' G hi ⟨e, b, rfl⟩ ⟨rfl, hx⟩
      obtain ⟨d, hd, hxd⟩ : ∃ d, d ∈ badE ∧ Dp K G x d := by
        have hlt : i < badE.length := by rw [← hvals.length]; exact hi
        obtain ⟨v, hv, hvd⟩ := hvals.get (i := i) (d := badE[i]) (by simp [hlt])
        rw [hx] at hv
        cases hv
        exact ⟨_, List.getElem_mem hlt, Dp.mono e _ _ hvd⟩
      obtain ⟨hs, hw, ho⟩ := badE_ok d hd
      have eG := e0.trans e
      refine ⟨_, rfl, a, dxa, _, rfl, eG _ _ haa, rfl, _, rfl, a, ls, x, d, rfl, ⟨dxa, ta, eG _ _ haa, eG.sqt hta, hL⟩, hxd, ho, .inr ⟨hw, fun p G2 e2 np hp => ?_⟩⟩
      refine ⟨true, T.x_BadNote, fun _ q nq => ?_, fun q => nomatch q⟩
      have hx2 := Dp.mono e2 _ _ hxd
      refine ⟨_, rfl, rfl, C 0, rfl, T.e_BadNote.look, T.e_BadNote.noN, p, _, x, rfl, hp, rfl, x, d, rfl, hx2, hs.s, hs.h, hs.l, hs.d, _, rfl, x, d, rfl, hx2, hs.s, hs.h, hs.l, hs.d, rfl, _, rfl, ?_⟩
      refine if_f (by simp) ?_
      exact ⟨e.trans e2, _, rfl⟩
    rintro σ G0 ⟨eA, b0, rfl⟩
    have eH := e0.trans eA
    refine ⟨(show 11 ≤ sizeLine by decide), fun q1 m1 => ?_⟩
    have f0 := eH.trans (same_new (o := .lst [V.str "", .str "a", .str "a 02", .str "a  01", .str "(a 01", .non, .int 5, .str "a 1", .str "01 99", .str "A 01", .str "a) 01"]) m1)
    refine ⟨q1, rfl, ⟨_, sqO upd_same⟩, ?_⟩
    change Exists _
    have hq1 := upd_same (H := G0) (a := q1) (o := HO.lst [V.str "", .str "a", .str "a 02", .str "a  01", .str "(a 01", .non, .int 5, .str "a 1", .str "01 99", .str "A 01", .str "a) 01"])
    generalize upd G0 q1 (HO.lst [V.str "", .str "a", .str "a 02", .str "a  01", .str "(a 01", .non, .int 5, .str "a 1", .str "01 99", .str "A 01", .str "a) 01"]) = H2 at f0 hq1 ⊢
    have hv2 : DpAll K H2 [V.str "", .str "a", .str "a 02", .str "a  01", .str "(a 01", .non, .int 5, .str "a 1", .str "01 99", .str "A 01", .str "a) 01"] badL :=
      .cons (.str _) (.cons (.str _) (.cons (.str _) (.cons (.str _) (.cons (.str _) (.cons .non (.cons (.int _) (.cons (.str _) (.cons (.str _) (.cons (.str _) (.cons (.str _) .nil))))))))))
    refine for_it (walk_list (xs := [V.str "", .str "a", .str "a 02", .str "a  01", .str "(a 01", .non, .int 5, .str "a 1", .str "01 99", .str "A 01", .str "a) 01"])) (fun i σ G => Same H2 G ∧ ∃ b, σ = [some (.ref a), b, none]) ⟨Same.refl _, _, rfl⟩ (fun i σ G hi h => sqO (h.1 _ _ hq1)) ?_ ?_
    · rintro i x σ G' G hi ⟨e, b, rfl⟩ ⟨rfl, hx⟩
      obtain ⟨d, hd, hxd⟩ : ∃ d, d ∈ badL ∧ Dp K G x d := by
        have hlt : i < badL.length := by rw [← hv2.length]; exact hi
        obtain ⟨v, hv, hvd⟩ := hv2.get (i := i) (d := badL[i]) (by simp [hlt])
        rw [hx] at hv
        cases hv
        exact ⟨_, List.getElem_mem hlt, Dp.mono e _ _ hvd⟩
      obtain ⟨hs, hf, hn⟩ := badL_ok d hd
      refine ⟨_, rfl, x, d, rfl, hxd, hf, fun ds h => (by rw [hn] at h; cases h), fun _ p G2 e2 np hp => ?_⟩
      refine ⟨true, T.x_BadNote, fun _ q nq => ?_, fun q => nomatch q⟩
      have hx2 := Dp.mono e2 _ _ hxd
      refine ⟨_, rfl, rfl, C 0, rfl, T.e_BadNote.look, T.e_BadNote.noN, p, _, x, rfl, hp, rfl, x, d, rfl, hx2, hs.s, hs.h, hs.l, hs.d, _, rfl, x, d, rfl, hx2, hs.s, hs.h, hs.l, hs.d, rfl, _, rfl, ?_⟩
      refine if_f (by simp) ?_
      exact ⟨e.trans e2, _, rfl⟩
    rintro σ G1 ⟨eB, b1, rfl⟩
    have f1 := f0.trans eB
    refine ⟨(show 3 ≤ sizeLine by decide), fun q2 m2 => ?_⟩
    have g0 := f1.trans (same_new (o := .lst [V.non, .str "a 01", .int 5]) m2)
    refine ⟨q2, rfl, ⟨_, sqO upd_same⟩, ?_⟩
    change Exists _
    have hq2 := upd_same (H := G1) (a := q2) (o := HO.lst [V.non, .str "a 01", .int 5])
    generalize upd G1 q2 (HO.lst [V.non, .str "a 01", .int 5]) = H3 at g0 hq2 ⊢
    have hv3 : DpAll K H3 [V.non, .str "a 01", .int 5] badT := .cons .non (.cons (.str _) (.cons (.int _) .nil))
    refine for_it (walk_list (xs := [V.non, .str "a 01", .int 5])) (fun i σ G => Same H3 G ∧ ∃ b, σ = [some (.ref a), b, none]) ⟨Same.refl _, _, rfl⟩ (fun i σ G hi h => sqO (h.1 _ _ hq2)) ?_ ?_
    · rintro i x σ G' G hi ⟨e, b, rfl⟩ ⟨rfl, hx⟩
      obtain ⟨d, hd, hxd⟩ : ∃ d, d ∈ badT ∧ Dp K G x d := by
        have hlt : i < badT.length := by rw [← hv3.length]; exact hi
        obtain ⟨v, hv, hvd⟩ := hv3.get (i := i) (d := badT[i]) (by simp [hlt])
        rw [hx] at hv
        cases hv
        exact ⟨_, List.getElem_mem hlt, Dp.mono e _ _ hvd⟩
      obtain ⟨hs, hf⟩ := badT_ok d hd
      refine ⟨_, rfl, x, d, rfl, hxd, .inr ⟨hf, fun p G2 e2 np hp => ?_⟩⟩
      refine ⟨true, T.x_BadNote, fun _ q nq => ?_, fun q => nomatch q⟩
      have hx2 := Dp.mono e2 _ _ hxd
      refine ⟨_, rfl, rfl, C 0, rfl, T.e_BadNote.look, T.e_BadNote.noN, p, _, x, rfl, hp, rfl, x, d, rfl, hx2, hs.s, hs.h, hs.l, hs.d, _, rfl, x, d, rfl, hx2, hs.s, hs.h, hs.l, hs.d, rfl, _, rfl, ?_⟩
      refine if_f (by simp) ?_
      exact ⟨e.trans e2, _, rfl⟩
    rintro σ G2 ⟨eC, b2, rfl⟩
    refine ⟨(show 1 ≤ sizeLine by decide), fun q3 m3 => ?_⟩
    refine ⟨q3, 401, _, rfl, rfl, upd_same, by decide, by decide, (show 1 * 401 ≤ sizeLine by decide), fun q4 m4 => ?_⟩
    refine fun y dx ny ndx hne => ?_
    have s1 := same_new (o := .own y) ndx
    have s2 := s1.trans (same_new (o := .ins (C 2) dx []) (by rw [upd_ne hne.symm]; exact ny))
    have good : goodL [97, 32, 48, 49] := ⟨⟨by decide, by decide⟩, by decide +kernel⟩
    have es : (List.replicate (Int.toNat 401) [V.str (Str.ofString "a 01")]).flatten = strsV (List.replicate 401 [97, 32, 48, 49]) := by
      unfold strsV
      rw [List.map_replicate, List.flatten_replicate_singleton]
      rfl
    refine ⟨y, dx, q4, List.replicate 401 [97, 32, 48, 49], rfl, upd_same, .inl (sqO (s2 _ _ (by rw [upd_same, es]))), fun l hl => by rw [List.eq_of_mem_replicate hl]; exact good, by rw [List.length_replicate]; decide, fun h => absurd h (by rw [List.length_replicate]; decide), fun _ q H' e nq hq => ?_⟩
    refine ⟨true, T.x_TooMany, fun _ q2 nq2 => ?_, fun z => nomatch z⟩
    exact ⟨_, rfl, rfl, C 1, rfl, T.e_TooMany.look, T.e_TooMany.noN, q, _, .int 400, rfl, hq, rfl, rfl, k _⟩
end
end LW
set_option Elab.async false
set_option linter.all false
set_option maxRecDepth 100000
set_option maxHeartbeats 8000000
/-! k11: a drawn event. -/
namespace LW
open PySem L2
theorem wOk_succ : ∀ {n : Nat} {d : PyData}, wOk n d → wOk (n + 1) d
  | 0, _, h => h.elim
  | _ + 1, .tuple ds, h => ⟨h.1, fun e he => wOk_succ (h.2 e he)⟩
  | _ + 1, .str _, h => h
  | _ + 1, .int _, h => h
  | _ + 1, .bool _, h => h
  | _ + 1, .none, h => h
  | _ + 1, .list _, h => h
  | _ + 1, .dict _, h => h
theorem wOk_le {m n : Nat} {d : PyData} (h : wOk m d) (l : m ≤ n) : wOk n d := by
  induction l with
  | refl => exact h
  | step _ ih => exact wOk_succ ih
theorem drawnAll_of : ∀ {ds : List PyData}, (∀ d ∈ ds, drawn d = true) → drawnAll ds = true
  | [], _ => by rw [drawnAll]
  | d :: ds, h => by
    rw [drawnAll, h d List.mem_cons_self, drawnAll_of fun x hx => h x (List.mem_cons_of_mem _ hx)]
    rfl
theorem sums_of : ∀ {ds : List PyData}, (∀ d ∈ ds, PartOk 2 d) → sumW ds ≤ 61 * ds.length ∧ (ds.map ((fun l => l.count 40) ∘ wordD)).sum ≤ 3 * ds.length
  | [], _ => ⟨Nat.zero_le _, Nat.zero_le _⟩
  | d :: ds, h => by
    have ih := sums_of (ds := ds) fun x hx => h x (List.mem_cons_of_mem _ hx)
    have q := h d List.mem_cons_self
    have q1 := q.len
    have q2 := q.cnt
    simp only [sumW, List.map_cons, List.sum_cons, List.length_cons, Function.comp] at ih ⊢
    simp at q1 q2
    omega
theorem ev_of {ds : List PyData} (hl : ds.length ≤ 4) (h : ∀ d ∈ ds, PartOk 2 d) : Ev ds := by
  have dr := drawnAll_of fun d hd => (h d hd).dr
  have s := sums_of h
  have jl := join_len ds
  have hc := cnt_join 40 (by decide) (wordsD ds)
  rw [wordsD_map, List.map_map] at hc
  have tl : (textE ds).length ≤ 244 := by unfold textE; omega
  have tc : (textE ds).count 40 ≤ 12 := by unfold textE; rw [wordsD_map, hc]; omega
  have ll := line_len ds
  refine ⟨dr, fun e he => evOk_le (h e he).ok (by decide), ⟨by omega, fun e he => wOk_le (h e he).wk (by decide)⟩, by omega, ⟨⟨by omega, ?_⟩, by rw [evIn_drawn dr]; exact fun q => nomatch q⟩⟩
  unfold lineE chk
  rw [List.count_append, List.count_append, List.count_append, cnt_num, cnt_num]
  have : [32].count 40 = 0 := by decide
  omega
end LW
set_option Elab.async false
set_option linter.all false
set_option maxRecDepth 100000
set_option maxHeartbeats 8000000
/-! k11: plain facts for the law. -/
namespace LW
open PySem L2
theorem evIn_ok {l : List Nat} {ds : List PyData} (h : evIn l = some ds) (hf : fitL l) : ∀ d ∈ ds, evOk 22 d := by
  unfold evIn at h
  by_cases h1 : okLine l = false
  · rw [if_pos h1] at h; cases h
  · rw [if_neg h1] at h
    by_cases h2 : l.drop (l.length - 2) ≠ chk (l.take (l.length - 3))
    · rw [if_pos h2] at h; cases h
    · rw [if_neg h2] at h
      split at h
      · rename_i es e
        by_cases h3 : lineE es = l
        · rw [if_pos h3] at h
          cases h
          have hc : (l.take (l.length - 3)).count 40 ≤ 20 := Nat.le_trans ((List.take_sublist _ _).count_le _) hf.2
          have wo := (words_ok (l.take (l.length - 3))).1
          obtain ⟨hok, _⟩ := run_ok (N := 22) (wordsIn (l.take (l.length - 3))) [[]] [ds] e (List.cons_ne_nil _ _) ⟨(fun d hd => nomatch hd), trivial⟩ (by show opens _ + 1 ≤ 22; omega)
          exact fun d hd => hok.1 d hd
        · rw [if_neg h3] at h; cases h
      · cases h
theorem numL_inj {a b : Int} (ha : a.natAbs ≤ 999999999) (hb : b.natAbs ≤ 999999999) (h : numL a = numL b) : a = b := by
  have h1 := num_in ha
  have h2 := num_in hb
  rw [h, h2] at h1
  injection h1 with h1
  exact h1.symm
theorem chk_iff {l m : List Nat} : chk l = chk m ↔ figN l = figN m := by
  have a1 := figN_nn l
  have a2 := figN_lt l
  have b1 := figN_nn m
  have b2 := figN_lt m
  constructor
  · intro h
    unfold chk at h
    have n1 : (numL (figN l / 10)).length = 1 := num_one (by omega) (by omega)
    have n2 : (numL (figN m / 10)).length = 1 := num_one (by omega) (by omega)
    obtain ⟨h1, h2⟩ := List.append_inj h (n1.trans n2.symm)
    have := numL_inj (by omega) (by omega) h1
    have := numL_inj (by omega) (by omega) h2
    omega
  · intro h
    unfold chk
    rw [h]
def swap (l : List Nat) (p : Nat) (c : Nat) : List Nat := l.take p ++ [c] ++ l.drop (p + 1)
theorem swap_len {l : List Nat} {p c : Nat} (h : p < l.length) : (swap l p c).length = l.length := by
  unfold swap
  simp
  omega
theorem swap_cnt {l : List Nat} {p c : Nat} (h : p < l.length) : (swap l p c).count 40 ≤ l.count 40 + 1 := by
  unfold swap
  have e : l.count 40 = (l.take p).count 40 + (l.drop p).count 40 := by rw [← List.count_append, List.take_append_drop]
  have e2 : (l.drop (p + 1)).count 40 ≤ (l.drop p).count 40 := by
    rw [← List.drop_drop]
    exact List.Sublist.count_le (a := 40) (List.drop_sublist 1 (l.drop p))
  have e3 : ([c] : List Nat).count 40 ≤ 1 := by
    have := List.count_le_length (a := 40) (l := ([c] : List Nat))
    simpa using this
  rw [List.count_append, List.count_append]
  omega
theorem swap_sig {l : List Nat} {p c : Nat} (h : l.all isSig = true) (hc : isSig c = true) : (swap l p c).all isSig = true := by
  rw [List.all_eq_true] at h ⊢
  intro x hx
  unfold swap at hx
  rcases List.mem_append.mp hx with hx | hx
  · rcases List.mem_append.mp hx with hx | hx
    · exact h x (List.mem_of_mem_take hx)
    · rw [List.mem_singleton.mp hx]
      exact hc
  · exact h x (List.mem_of_mem_drop hx)
theorem sign_sig {i c : Nat} (h : (Str.ofString "ab09 -()").cps[i]? = some c) : isSig c = true := by
  have e : (Str.ofString "ab09 -()").cps.toList = [97, 98, 48, 57, 32, 45, 40, 41] := rfl
  have hm : c ∈ (Str.ofString "ab09 -()").cps.toList := by
    rw [← Array.getElem?_toList] at h
    exact List.mem_of_getElem? h
  rw [e] at hm
  have : ∀ c ∈ ([97, 98, 48, 57, 32, 45, 40, 41] : List Nat), isSig c = true := by decide
  exact this c hm
theorem ev_cnt {ds : List PyData} (hl : ds.length ≤ 4) (h : ∀ d ∈ ds, PartOk 2 d) : (lineE ds).count 40 ≤ 12 := by
  have s := sums_of h
  have hc := cnt_join 40 (by decide) (wordsD ds)
  rw [wordsD_map, List.map_map] at hc
  have tc : (textE ds).count 40 ≤ 12 := by unfold textE; rw [wordsD_map, hc]; omega
  unfold lineE chk
  rw [List.count_append, List.count_append, List.count_append, cnt_num, cnt_num]
  have : ([32] : List Nat).count 40 = 0 := by decide
  omega
theorem cutV_take {α : Type} (f : α → V) (xs : List α) (k : Nat) : cutV (xs.map f) none (some (k : Int)) = (xs.take k).map f := by
  unfold cutV
  rw [HT.sIx_none, HT.sIx_nat, List.drop_zero, Nat.sub_zero, List.length_map, ← List.map_take]
  congr 1
  exact (List.take_eq_take_min).symm
theorem row_ne {K : PySem.W.Frag} {a r p : Addr} {H : Hp} (R : RowI K a r H) (h : H p = none) : p ≠ r := fun q => by
  obtain ⟨xs, hx⟩ := R.some
  rw [q, hx] at h
  cases h
theorem good_a : goodL [97, 32, 48, 49] := ⟨by unfold fitL; decide, by decide +kernel⟩
def lawEv : List PyData := [.str "a", .int 1, .tuple [.str "b", .int (-2)]]
theorem lawEv_ok : Ev lawEv := by
  refine ev_of (by decide) fun d hd => ?_
  unfold lawEv at hd
  rcases List.mem_cons.mp hd with rfl | hd
  · exact part_nameJ (l := [97]) (by decide +kernel)
  rcases List.mem_cons.mp hd with rfl | hd
  · exact part_int (by decide)
  rw [List.mem_singleton.mp hd]
  refine part_row (j := 1) (by decide) (by decide) fun d hd => ?_
  rcases List.mem_cons.mp hd with rfl | hd
  · exact part_nameJ (l := [98]) (by decide +kernel)
  rw [List.mem_singleton.mp hd]
  exact part_int (by decide)
def unl (ls ms : List (List Nat)) (n : Nat) : List Nat := (List.range n).filter fun i => decide (ms[i]? ≠ ls[i]?)
theorem unl_succ (ls ms : List (List Nat)) (n : Nat) : unl ls ms (n + 1) = unl ls ms n ++ (if ms[n]? ≠ ls[n]? then [n] else []) := by
  unfold unl
  rw [List.range_succ, List.filter_append]
  congr 1
  by_cases h : ms[n]? ≠ ls[n]?
  · rw [if_pos h]
    simp [h]
  · rw [if_neg h]
    simp at h
    simp [h]
theorem unl_len (ls ms : List (List Nat)) (n : Nat) : (unl ls ms n).length ≤ n := by
  unfold unl
  have := List.length_filter_le (fun i => decide (ms[i]? ≠ ls[i]?)) (List.range n)
  simpa using this
theorem unl_head {ls ms : List (List Nat)} (h : ms.length = ls.length) : ((unl ls ms ls.length).map (fun i : Nat => V.int i) ++ [V.non])[0]? = some (unlikeV ls ms (max ls.length ms.length)) := by
  rw [h, Nat.max_self]
  unfold unlikeV unl
  have e : (fun i : Nat => decide (ms[i]? ≠ ls[i]?)) = (fun i : Nat => decide (ls[i]? ≠ ms[i]?)) := by
    funext i
    exact decide_eq_decide.mpr ne_comm
  rw [e, ← List.head?_filter]
  cases (List.range ls.length).filter (fun i => decide (ls[i]? ≠ ms[i]?)) with
  | nil => rfl
  | cons x xs => rfl
theorem unlike_one {ls : List (List Nat)} {x : List Nat} : unlikeV ls (ls ++ [x]) (max ls.length (ls ++ [x]).length) = .int (ls.length : Nat) := by
  refine unlike_at ?_ (fun j hj => ?_) ?_
  · simp
  · rw [List.getElem?_append_left hj]
  · rw [List.getElem?_eq_none (Nat.le_refl _)]
    simp
theorem unlike_dp (a b : List (List Nat)) (m : Nat) : ∃ d, (∀ (K : PySem.W.Frag) (H : Hp), Dp K H (unlikeV a b m) d) ∧ SeqAt.shaped d = true := by
  unfold unlikeV
  cases (List.range m).find? (fun i => decide (a[i]? ≠ b[i]?)) with
  | none => exact ⟨.none, fun _ _ => .non, rfl⟩
  | some i => exact ⟨.int i, fun _ _ => .int _, okd_shaped (n := 1) trivial (by decide)⟩
theorem atI_zero {α : Type} {xs : List α} {v : α} (h : xs[0]? = some v) : atI xs 0 = some v := by
  have := atI_nat (xs := xs) (j := 0) h
  exact this
end LW
set_option Elab.async false
set_option linter.all false
set_option maxRecDepth 100000
set_option maxHeartbeats 8000000
/-! k11: the law. -/
namespace LW
open PySem L2
section
variable {P : Program} {w : World} {K : PySem.W.Frag} {mg : Str → Option Value} {base : Heap} {F : Nat → Addr} {D : Nat → FuncData} {C : Nat → Addr}
def EvD (d : PyData) : Prop := ∃ ds, d = .tuple ds ∧ ds.length ≤ 4 ∧ ∀ e ∈ ds, PartOk 2 e
theorem EvD.fz {d : PyData} (h : EvD d) : frozen d = true := by
  obtain ⟨ds, rfl, _, h⟩ := h
  rw [frozen]
  exact frozen_drawnAll _ (drawnAll_of fun e he => (h e he).dr)
theorem evs_back : ∀ {ds : List PyData}, (∀ d ∈ ds, EvD d) → ∃ dss : List (List PyData), ds = dss.map PyData.tuple ∧ ∀ es ∈ dss, Ev es ∧ (lineE es).count 40 ≤ 12
  | [], _ => ⟨[], rfl, fun e h => nomatch h⟩
  | d :: ds, h => by
    obtain ⟨es, rfl, h1, h2⟩ := h d List.mem_cons_self
    obtain ⟨dss, rfl, h3⟩ := evs_back (ds := ds) fun x hx => h x (List.mem_cons_of_mem _ hx)
    refine ⟨es :: dss, rfl, fun e he => ?_⟩
    rcases List.mem_cons.mp he with rfl | he
    · exact ⟨ev_of h1 h2, ev_cnt h1 h2⟩
    · exact h3 e he
def sp_law (K : PySem.W.Frag) : Sp := fun vs H Q _ => ∃ a, ∃ ns : List Int, vs = [.ref a] ∧ SqL K H a (ns.map V.int) ∧ ∀ H', Q (.bl true) H'
theorem txtA (T : Txt P K mg F D C) : TxtA K mg (F 24) := { isi := T.z_isinstance, tup := T.z_tuple, lst := T.z_list, str := T.z_str, int := T.z_int, bool := T.z_bool, len := T.z_len, rng := T.z_range, gA := T.g__law_alike, kA := T.u__law_alike.kp }
theorem sc_law : FnScope ["script", "row", "events", "lines", "event", "text", "check", "made", "line", "chain", "here", "place", "sign", "other", "found", "e", "unlike", "j", "k", "part"] ["script"] (defScope s_law) := ⟨rfl, rfl, rfl, by decide +kernel, rfl, by decide +kernel, by decide +kernel⟩
theorem ok_law (T : Txt P K mg F D C) : FnG P w K mg base CX0 63 (F 32) (D 32) ["script"] (sp_law K) := by
  have G__law_taken := g_taken (P := P) (w := w) (base := base) T
  have G__law_part := ok_part (P := P) (w := w) (base := base) T 2
  have G__law_word := ok_lword (P := P) (w := w) (base := base) T 22
  have G__law_figure := ok_lfigure (P := P) (w := w) (base := base) T
  have G__law_feed := ok_feed (P := P) (w := w) (base := base) T
  have G__law_shuffled := ok_shuffled (P := P) (w := w) (base := base) T
  have G__law_alike := ok_alike (P := P) (w := w) (base := base) (f := (F 24)) (txtA T) T.u__law_alike T.b__law_alike 30
  have G__law_refused := ok_refused (P := P) (w := w) (base := base) T
  have G_line_of := ok_line_of (P := P) (w := w) (base := base) T 22
  have G_figure := ok_figure (P := P) (w := w) (base := base) T
  have G_event_in := ok_event_in (P := P) (w := w) (base := base) T
  have G_read_text := ok_read (P := P) (w := w) (base := base) T
  have G_kept_lines := ok_kept (P := P) (w := w) (base := base) T
  have G_Archive___init__ := ok_init (P := P) (w := w) (base := base) T
  have G_Archive___len__ := ok_len (P := P) (w := w) (base := base) T
  have G_Archive___eq__ := ok_eq (P := P) (w := w) (base := base) T
  have G_Archive_events := ok_events (P := P) (w := w) (base := base) T
  have G_Archive_text := ok_text (P := P) (w := w) (base := base) T
  have G_Archive_chain := ok_chain (P := P) (w := w) (base := base) T
  have G_Archive_first_unlike := ok_unlike (P := P) (w := w) (base := base) T
  have G_Archive_with_event := ok_with (P := P) (w := w) (base := base) T
  refine fnG0 T.u_law sc_law (fun vs H Q E h => ?_) (fun cdv A outer s H vs Q E hr hgd h => ?_)
  · obtain ⟨a, ns, rfl, _⟩ := h
    rfl
  · obtain ⟨a, ns, rfl, ha, k⟩ := h
    refine ⟨_, (pss_cons (ps_set (i := 1) sc_law.nd rfl (.inr rfl) (pe_lst (pa_cons (pv 0) (pa_cons pe_int (pa_cons pe_int (pa_cons pe_int pa_nil))))))
      (pss_cons (ps_setLc (i := 2) (own := [("j", 17)]) (g := gName 17) (by rfl) sc_law.nd rfl rfl (sw_true rfl rfl rfl (by decide +kernel)) (pi_range1 (by rfl) T.z_range (pa_cons (pe_call G__law_taken (hr.mono (by omega)) (by rfl) T.g__law_taken T.u__law_taken.kp T.b__law_taken .nil pass0 (pa_cons (pv 1) (pa_cons pe_int pa_nil))) pa_nil)) (blkOk_by (own := [("j", 17)]) (N := ["script", "row", "events", "lines", "event", "text", "check", "made", "line", "chain", "here", "place", "sign", "other", "found", "e", "unlike", "j", "k", "part"]) (sc := defScope s_law) (by decide +kernel)) (fun _ _ _ _ _ => (pg_name (i := 17) sc_law.nd rfl (.inl rfl))) (fun _ _ _ _ _ => pts_nil) (fun _ _ _ _ _ => (pe_callTy (r := rTupQ K) cq_tup (by rfl) T.z_tuple (by decide +kernel) (pa_cons (pe_lc (own := [("k", 18)]) (g := gName 18) (by rfl) sc_law.nd (pi_range1 (by rfl) T.z_range (pa_cons (pe_op op_add pe_int (pe_call G__law_taken (hr.mono (by omega)) (by rfl) T.g__law_taken T.u__law_taken.kp T.b__law_taken .nil pass0 (pa_cons (pv 1) (pa_cons pe_int pa_nil)))) pa_nil)) (blkOk_by (own := [("k", 18)]) (by rfl)) (fun _ _ _ _ _ => (pg_name (i := 18) sc_law.nd rfl (.inl rfl))) (fun _ _ _ _ _ => pts_nil) (fun _ _ _ _ _ => (pe_call G__law_part (hr.mono (by omega)) (by rfl) T.g__law_part T.u__law_part.kp T.b__law_part .nil pass0 (pa_cons (pv 1) (pa_cons pe_int pa_nil))))) pa_nil))))
      (pss_cons (ps_set (i := 3) sc_law.nd rfl (.inr rfl) (pe_lst pa_nil))
      (pss_cons (ps_for PassesOwn.never rfl (pi_list (pv 2)) (pg_name (i := 4) sc_law.nd rfl (.inl rfl))
        (pss_cons (ps_set (i := 5) sc_law.nd rfl (.inl rfl) (pe_join pe_str (pe_lc (own := [("part", 19)]) (g := gName 19) (by rfl) sc_law.nd (pi_tup (pv 4)) (blkOk_by (own := [("part", 19)]) (N := ["script", "row", "events", "lines", "event", "text", "check", "made", "line", "chain", "here", "place", "sign", "other", "found", "e", "unlike", "j", "k", "part"]) (sc := defScope s_law) (by decide +kernel)) (fun _ _ _ _ _ => (pg_name (i := 19) sc_law.nd rfl (.inl rfl))) (fun _ _ _ _ _ => pts_nil) (fun _ _ _ _ _ => (pe_call G__law_word (hr.mono (by omega)) (by rfl) T.g__law_word T.u__law_word.kp T.b__law_word .nil pass0 (pa_cons (pv 19) pa_nil))))))
        (pss_cons (ps_set (i := 6) sc_law.nd rfl (.inl rfl) (pe_call G__law_figure (hr.mono (by omega)) (by rfl) T.g__law_figure T.u__law_figure.kp T.b__law_figure .nil pass0 (pa_cons (pv 5) pa_nil)))
        (pss_cons (ps_expr (pe_bm PySem.F.plainAttrs_list PySem.F.slot_list_append PySem.F.type_list_append mt_append (pv 3) (pa_cons (pe_op op_add_str (pe_op op_add_str (pe_op op_add_str (pv 5) pe_str) (pe_callTy call_str_int (by rfl) T.z_str (by decide +kernel) (pa_cons (pe_op op_fdiv (pv 6) pe_int) pa_nil))) (pe_callTy call_str_int (by rfl) T.z_str (by decide +kernel) (pa_cons (pe_op op_sub (pv 6) (pe_op op_mul (pe_op op_fdiv (pv 6) pe_int) pe_int)) pa_nil))) pa_nil)))
        (pss_one (ps_if (PW.pt (pw_or (pt_cmpR op_ne (pe_call G_line_of (hr.mono (by omega)) (by rfl) T.g_line_of T.u_line_of.kp T.b_line_of .nil pass0 (pa_cons (pv 4) pa_nil)) (pe_ix (r := rIxL K) ix_list (pv 3) (pe_un un_neg pe_int) (fun _ _ => rfl)) (nomark _)) (pw_or1 (pt_not (pt_val (pe_call G__law_alike (hr.mono (by omega)) (by rfl) T.g__law_alike T.u__law_alike.kp T.b__law_alike .nil pass0 (pa_cons (pe_tup (pa_cons (pe_call G_event_in (hr.mono (by omega)) (by rfl) T.g_event_in T.u_event_in.kp T.b_event_in .nil passL (pa_cons (pe_ix (r := rIxL K) ix_list (pv 3) (pe_un un_neg pe_int) (fun _ _ => rfl)) pa_nil)) (pa_cons (pe_call G_figure (hr.mono (by omega)) (by rfl) T.g_figure T.u_figure.kp T.b_figure .nil pass0 (pa_cons (pv 5) pa_nil)) pa_nil))) (pa_cons (pe_tup (pa_cons (pv 4) (pa_cons (pv 6) pa_nil))) pa_nil)))))))) (pss_one (ps_ret pe_bl))
          pss_nil))))))
      (pss_cons (ps_set (i := 7) sc_law.nd rfl (.inl rfl) (pe_call G_kept_lines (hr.mono (by omega)) (by rfl) T.g_kept_lines T.u_kept_lines.kp T.b_kept_lines .nil pass0 (pa_cons (pv 2) pa_nil)))
      (pss_cons (ps_if (PW.pt (pw_or (pt_not (pt_val (pe_call G__law_alike (hr.mono (by omega)) (by rfl) T.g__law_alike T.u__law_alike.kp T.b__law_alike .nil pass0 (pa_cons (pe_tup (pa_cons (pe_fld (pv 7) rfl) (pa_cons (pe_callB (call_lenOwn T.len_Archive G_Archive___len__ (hr.mono (by omega)) T.b_Archive___len__ pass0) (by rfl) T.z_len (by decide +kernel) (pa_cons (pv 7) pa_nil)) (pa_cons (pe_meth0 (pv 7) T.cl_Archive T.mt_Archive_events G_Archive_events (hr.mono (by omega)) T.b_Archive_events .nil pass0) pa_nil)))) (pa_cons (pe_tup (pa_cons (pe_callTy (r := rTupQ K) cq_tup (by rfl) T.z_tuple (by decide +kernel) (pa_cons (pv 3) pa_nil)) (pa_cons (pe_callB (r := rLenQ K) cq_len (by rfl) T.z_len (by decide +kernel) (pa_cons (pv 3) pa_nil)) (pa_cons (pe_callTy (r := rTupQ K) cq_tup (by rfl) T.z_tuple (by decide +kernel) (pa_cons (pv 2) pa_nil)) pa_nil)))) pa_nil))))) (pw_or (pt_cmpR (op_neOwn T.eq_Archive G_Archive___eq__ (hr.mono (by omega)) T.b_Archive___eq__ pass0) (pv 7) (pe_make T.m_Archive G_Archive___init__ (hr.mono (by omega)) (by rfl) T.c_Archive T.b_Archive___init__ .nil passL (pa_cons (pv 3) pa_nil)) (nomark _)) (pw_or1 (pt_cmpR (op_eqOwn T.eq_Archive G_Archive___eq__ (hr.mono (by omega)) T.b_Archive___eq__ pass0) (pv 7) (pe_callTy (r := rTupQ K) cq_tup (by rfl) T.z_tuple (by decide +kernel) (pa_cons (pv 3) pa_nil)) (nomark _)))))) (pss_one (ps_ret pe_bl))
        pss_nil)
      (pss_cons (ps_set (i := 5) sc_law.nd rfl (.inl rfl) (pe_join pe_str (pe_lc (own := [("line", 8)]) (g := gName 8) (by rfl) sc_law.nd (pi_list (pv 3)) (blkOk_by (own := [("line", 8)]) (N := ["script", "row", "events", "lines", "event", "text", "check", "made", "line", "chain", "here", "place", "sign", "other", "found", "e", "unlike", "j", "k", "part"]) (sc := defScope s_law) (by decide +kernel)) (fun _ _ _ _ _ => (pg_name (i := 8) sc_law.nd rfl (.inl rfl))) (fun _ _ _ _ _ => pts_nil) (fun _ _ _ _ _ => (pe_op op_add_str (pv 8) (pe_call0 G__law_feed (hr.mono (by omega)) (by rfl) T.g__law_feed T.u__law_feed.kp T.b__law_feed .nil pass0))))))
      (pss_cons (ps_if (PW.pt (pw_or (pt_cmpR op_ne (pe_meth0 (pv 7) T.cl_Archive T.mt_Archive_text G_Archive_text (hr.mono (by omega)) T.b_Archive_text .nil pass0) (pv 5) (nomark _)) (pw_or1 (pt_cmpR (op_neOwn T.eq_Archive G_Archive___eq__ (hr.mono (by omega)) T.b_Archive___eq__ pass0) (pe_call G_read_text (hr.mono (by omega)) (by rfl) T.g_read_text T.u_read_text.kp T.b_read_text .nil passL (pa_cons (pv 5) pa_nil)) (pv 7) (nomark _))))) (pss_one (ps_ret pe_bl))
        pss_nil)
      (pss_cons (ps_par (i := 9) (j := 10) (by rfl) sc_law.nd rfl rfl (by decide) rfl rfl (pa_cons (pe_lst pa_nil) (pa_cons pe_int pa_nil)) (by rfl))
      (pss_cons (ps_for PassesOwn.never rfl (pi_list (pv 3)) (pg_name (i := 8) sc_law.nd rfl (.inl rfl))
        (pss_cons (ps_set (i := 10) sc_law.nd rfl (.inl rfl) (pe_op op_add (pe_op op_mul (pv 10) pe_int) (pe_call G__law_figure (hr.mono (by omega)) (by rfl) T.g__law_figure T.u__law_figure.kp T.b__law_figure .nil pass0 (pa_cons (pv 8) pa_nil))))
        (pss_cons (ps_set (i := 10) sc_law.nd rfl (.inl rfl) (pe_op op_sub (pv 10) (pe_op op_mul (pe_op op_fdiv (pv 10) pe_int) pe_int)))
        (pss_one (ps_expr (pe_bm PySem.F.plainAttrs_list PySem.F.slot_list_append PySem.F.type_list_append mt_append (pv 9) (pa_cons (pv 10) pa_nil)))))))
      (pss_cons (ps_if (pt_not (pt_val (pe_call G__law_alike (hr.mono (by omega)) (by rfl) T.g__law_alike T.u__law_alike.kp T.b__law_alike .nil pass0 (pa_cons (pe_meth0 (pv 7) T.cl_Archive T.mt_Archive_chain G_Archive_chain (hr.mono (by omega)) T.b_Archive_chain .nil pass0) (pa_cons (pe_callTy (r := rTupQ K) cq_tup (by rfl) T.z_tuple (by decide +kernel) (pa_cons (pv 9) pa_nil)) pa_nil))))) (pss_one (ps_ret pe_bl))
        pss_nil)
      (pss_cons (ps_for PassesOwn.never rfl (pi_list (pe_slice sl_list (pv 3) po_none (po_some pe_int))) (pg_name (i := 8) sc_law.nd rfl (.inl rfl))
        (pss_cons (ps_set (i := 11) sc_law.nd rfl (.inl rfl) (pe_call G__law_taken (hr.mono (by omega)) (by rfl) T.g__law_taken T.u__law_taken.kp T.b__law_taken .nil pass0 (pa_cons (pv 1) (pa_cons (pe_callB call_len_str (by rfl) T.z_len (by decide +kernel) (pa_cons (pv 8) pa_nil)) pa_nil))))
        (pss_one (ps_for PassesOwn.never rfl (pi_str pe_str) (pg_name (i := 12) sc_law.nd rfl (.inl rfl))
          (pss_cons (ps_set (i := 13) sc_law.nd rfl (.inr rfl) (pe_op op_add_str (pe_op op_add_str (pe_slice sl_str (pv 8) po_none (po_some (pv 11))) (pv 12)) (pe_slice sl_str (pv 8) (po_some (pe_op op_add (pv 11) pe_int)) po_none)))
          (pss_one (ps_wrap (ps_try_as (i := 15) (Wout := fun _ _ _ _ => False) rfl rfl sc_law.nd rfl rfl ⟨rfl, by decide, .inl T.c_BadNote⟩ takes0
            (fun W pn xx tk xe => (pss_cons (ps_set (i := 14) sc_law.nd rfl (.inl rfl) (pe_callS G_event_in (hr.mono (by omega)) (by rfl) T.g_event_in T.u_event_in.kp T.b_event_in (fun σ => passAt tk σ) (by exact (pa_cons (pv 13) pa_nil))))
            (pss_one (ps_if (PW.pt (pw_or (pt_cmpR op_ne (pe_call G_line_of (hr.mono (by omega)) (by rfl) T.g_line_of T.u_line_of.kp T.b_line_of .nil pass0 (pa_cons (pv 14) pa_nil)) (pv 13) (nomark _)) (pw_or1 (PW.pt (pw_and (pt_cmpR op_ne (pv 13) (pv 8) (nomark _)) (pw_and (pt_cmpR op_lt (pv 11) pe_int (nomark _)) (pw_and (pt_cmpR op_lt (pe_callB call_len_str (by rfl) T.z_len (by decide +kernel) (pa_cons (pv 8) pa_nil)) pe_int (nomark _)) (pw_and1 (pt_cmpR op_ne (pe_cmpR op_eq (pe_call G__law_figure (hr.mono (by omega)) (by rfl) T.g__law_figure T.u__law_figure.kp T.b__law_figure .nil pass0 (pa_cons (pe_slice sl_str (pv 13) po_none (po_some (pe_un un_neg pe_int))) pa_nil)) (pe_call G__law_figure (hr.mono (by omega)) (by rfl) T.g__law_figure T.u__law_figure.kp T.b__law_figure .nil pass0 (pa_cons (pe_slice sl_str (pv 8) po_none (po_some (pe_un un_neg pe_int))) pa_nil)) (nomark _)) (pe_cmpR op_eq (pe_slice sl_str (pv 13) (po_some (pe_un un_neg pe_int)) po_none) (pe_slice sl_str (pv 8) (po_some (pe_un un_neg pe_int)) po_none) (nomark _)) (nomark _)))))))))) (pss_one (ps_ret pe_bl))
              pss_nil))))
            (fun a oe cls d pn hz hf => (pss_one (ps_if (PW.pt (pw_or (pt_cmpR op_eq (pv 13) (pv 8) (nomark _)) (pw_or1 (pt_cmpR (r := rNeD K) (op_neD hr.units) (pe_byErr hz hf (pv 15)) (pv 13) (nomark _))))) (pss_one (ps_ret pe_bl))
              pss_nil)))))))))))
      (pss_cons (ps_set (i := 13) sc_law.nd rfl (.inr rfl) (pe_call G__law_shuffled (hr.mono (by omega)) (by rfl) T.g__law_shuffled T.u__law_shuffled.kp T.b__law_shuffled .nil pass0 (pa_cons (pv 1) (pa_cons (pv 3) pa_nil))))
      (pss_cons (ps_setLc (i := 16) (own := [("k", 18)]) (g := gName 18) (by rfl) sc_law.nd rfl rfl (sw_true rfl rfl rfl (by decide +kernel)) (pi_range1 (by rfl) T.z_range (pa_cons (pe_callB (r := rLenQ K) cq_len (by rfl) T.z_len (by decide +kernel) (pa_cons (pv 3) pa_nil)) pa_nil)) (blkOk_by (own := [("k", 18)]) (N := ["script", "row", "events", "lines", "event", "text", "check", "made", "line", "chain", "here", "place", "sign", "other", "found", "e", "unlike", "j", "k", "part"]) (sc := defScope s_law) (by decide +kernel)) (fun _ _ _ _ _ => (pg_name (i := 18) sc_law.nd rfl (.inl rfl))) (fun _ _ _ _ _ => (pts_one (pt_cmpR op_ne (pe_ix (r := rIxL K) ix_list (pv 13) (pv 18) (fun _ _ => rfl)) (pe_ix (r := rIxL K) ix_list (pv 3) (pv 18) (fun _ _ => rfl)) (nomark _)))) (fun _ _ _ _ _ => (pv 18)))
      (pss_cons (ps_if (PW.pt (pw_or (pt_cmpR (r := rNeD K) (op_neD hr.units) (pe_meth (pv 7) T.cl_Archive T.mt_Archive_first_unlike G_Archive_first_unlike (hr.mono (by omega)) T.b_Archive_first_unlike .nil pass0 (pa_cons (pe_make T.m_Archive G_Archive___init__ (hr.mono (by omega)) (by rfl) T.c_Archive T.b_Archive___init__ .nil passL (pa_cons (pv 13) pa_nil)) pa_nil)) (pe_ix (r := rIxL K) ix_list (pe_op op_cat (pv 16) (pe_lst (pa_cons pe_non pa_nil))) pe_int (fun _ _ => rfl)) (nomark _)) (pw_or1 (pt_cmpR (r := rNeD K) (op_neD hr.units) (pe_meth (pv 7) T.cl_Archive T.mt_Archive_first_unlike G_Archive_first_unlike (hr.mono (by omega)) T.b_Archive_first_unlike .nil pass0 (pa_cons (pe_make T.m_Archive G_Archive___init__ (hr.mono (by omega)) (by rfl) T.c_Archive T.b_Archive___init__ .nil passL (pa_cons (pe_op op_cat (pv 3) (pe_lst (pa_cons pe_str pa_nil))) pa_nil)) pa_nil)) (pe_callB (r := rLenQ K) cq_len (by rfl) T.z_len (by decide +kernel) (pa_cons (pv 3) pa_nil)) (nomark _))))) (pss_one (ps_ret pe_bl))
        pss_nil)
      (pss_cons (ps_set (i := 4) sc_law.nd rfl (.inl rfl) (pe_tup (pa_cons pe_str (pa_cons pe_int (pa_cons (pe_tup (pa_cons pe_str (pa_cons (pe_un un_neg pe_int) pa_nil))) pa_nil)))))
      (pss_cons (ps_if (pt_cmpR (op_neOwn T.eq_Archive G_Archive___eq__ (hr.mono (by omega)) T.b_Archive___eq__ pass0) (pe_meth (pv 7) T.cl_Archive T.mt_Archive_with_event G_Archive_with_event (hr.mono (by omega)) T.b_Archive_with_event .nil passL (pa_cons (pv 4) pa_nil)) (pe_make T.m_Archive G_Archive___init__ (hr.mono (by omega)) (by rfl) T.c_Archive T.b_Archive___init__ .nil passL (pa_cons (pe_op op_cat (pv 3) (pe_lst (pa_cons (pe_call G_line_of (hr.mono (by omega)) (by rfl) T.g_line_of T.u_line_of.kp T.b_line_of .nil pass0 (pa_cons (pv 4) pa_nil)) pa_nil))) pa_nil)) (nomark _)) (pss_one (ps_ret pe_bl))
        pss_nil)
      (pss_one (ps_ret (pe_callG G__law_refused (hr.mono (by omega)) hgd (by rfl) T.g__law_refused T.u__law_refused.kp T.b__law_refused pass0 (pa_cons (pv 7) pa_nil))))))))))))))))))))), ?_⟩
    refine ⟨_, rfl, (show 4 ≤ sizeLine by decide), fun r nr => ?_⟩
    have er := same_new (o := .lst [V.ref a, .int 0, .int 167, .int 0]) nr
    have R0 : RowI K a r (upd H r (.lst [V.ref a, .int 0, .int 167, .int 0])) := ⟨0, 167, 0, upd_same, by decide, by decide, ns, er.seq ha⟩
    refine ⟨_, rfl, a, r, 6, rfl, R0, by decide, by decide, fun nE H1 a1 a2 b1 R1 => ?_⟩
    refine ⟨_, rfl, by omega, by omega, fun Dl nD => lc_row (K := K) (walk_range0 (n := nE.toNat)) R1 nD (fun _ d => EvD d) (fun _ d h => h.fz) (by omega) (fun _ _ _ => trivial) (fun _ _ _ _ _ y => y.1) (fun x => rfl) (fun i x H2 hi e2 R2 y Q' q => ?_) (fun H2 xs ds e2 R2 hD hv hl hP => ?_)⟩
    · refine ⟨_, rfl, a, r, 4, rfl, R2, by decide, by decide, fun m H3 m1 m2 b3 R3 => ⟨_, _, rfl, rfl, _, rfl, by omega, by omega, fun D2 nD2 => lc_row (K := K) (walk_range0 (n := (1 + m).toNat)) R3 nD2 (fun _ d => PartOk 2 d) (fun _ d h => h.fz) (by omega) (fun _ _ _ => trivial) (fun _ _ _ _ _ y => y.1) (fun x => rfl) (fun i2 x2 H4 hi2 e4 R4 y2 Q2 q2 => ?_) (fun H4 xs ds e4 R4 hD4 hv hl hP => ?_)⟩⟩
      · exact ⟨_, rfl, a, r, rfl, by decide, R4, fun v d H5 e5 R5 hv hP => q2 v d H5 e5 R5 hv hP⟩
      · refine ⟨D2, xs, rfl, .inl ⟨sqO hD4, fun tp nt => ?_⟩⟩
        have es := same_new (o := .tup xs) nt
        exact q _ (.tuple ds) _ ((b3.sb.trans e4).trans (but_same es)) (R4.same es) (.tup (stO upd_same) (DpAll.mono es _ _ hv)) ⟨ds, rfl, by omega, fun e he => by
          obtain ⟨j, hj, rfl⟩ := List.mem_iff_getElem.mp he
          exact hP j _ (by simp [hj])⟩
    · obtain ⟨dss, rfl, hEv⟩ := evs_back (ds := ds) fun d hd => by
        obtain ⟨j, hj, rfl⟩ := List.mem_iff_getElem.mp hd
        exact hP j _ (by simp [hj])
      have hdl : dss.length = nE.toNat := by simpa using hl
      have hxl : xs.length = dss.length := by rw [hv.length, List.length_map]
      refine ⟨by decide, fun LN nLN => ?_⟩
      have e3 := same_new (o := .lst []) nLN
      refine ⟨_, rfl, Dl, rfl, ⟨_, sqO (e3 _ _ hD)⟩, ?_⟩
      change Exists _
      refine for_it (walk_list (xs := xs)) (fun i σ G => i ≤ dss.length ∧ Same H2 G ∧ G LN = some (.lst (strsV ((dss.take i).map lineE))) ∧ ∃ b c d e, σ = [some (.ref a), some (.ref r), some (.ref Dl), some (.ref LN), b, c, d, none, none, none, none, none, none, none, none, none, none, none, none, e]) ⟨Nat.zero_le _, e3, upd_same, _, _, _, _, rfl⟩ (fun i σ G hi h => sqO (h.2.1 _ _ hD)) ?_ ?_
      · rintro i x σ G' G hi ⟨_, e, hLN, b, c, d, e', rfl⟩ ⟨rfl, hx⟩
        rw [hxl] at hi
        obtain ⟨v, hvi, hvd⟩ := hv.get (i := i) (d := .tuple dss[i]) (by simp [hi])
        rw [hx] at hvi
        cases hvi
        have hE := (hEv dss[i] (List.getElem_mem hi)).1
        have hxd := Dp.mono e _ _ hvd
        generalize hes : dss[i] = es at hE hxd hvd
        cases hxd with
        | @tup ea exs es sx ax =>
          have jl := join_len es
          have ln := len_sumW es
          have el := hE.len
          unfold textE at el
          refine ⟨⟨_, rfl⟩, _, rfl, ea, rfl, ⟨_, sx⟩, fun D5 nD5 => lc_map walk_tup nD5 (fun i => .str (tx (wordD (es.getD i .none)))) (by rw [ax.length]; omega) (fun H' e => e.sqt sx) (fun _ _ _ _ _ y => by obtain ⟨rfl, _⟩ := y; exact Same.refl _) (fun x => rfl) (fun i x H1 H2 hi e y Q' q => ?_) (fun H5 e5 hD5 => ?_)⟩
          · obtain ⟨rfl, hx⟩ := y
            obtain ⟨d, hd'⟩ : ∃ d, es[i]? = some d := ⟨es[i]'(by rw [← ax.length]; exact hi), by simp⟩
            obtain ⟨v, hv, hvd⟩ := ax.get hd'
            rw [hx] at hv
            cases hv
            rw [getD_some hd'] at q
            have hm := List.mem_of_getElem? hd'
            refine ⟨_, rfl, _, _, rfl, Dp.mono e _ _ hvd, hE.ok d hm, ?_, fun H' e' => q H' e'⟩
            have := mem_sumW hm
            omega
          · rw [words_range ax.length] at hD5
            have hT : joinL [32] (wordsD es) = textE es := rfl
            have hsig : (textE es).all isSig = true := List.all_eq_true.mpr (sig_join (by decide) (sig_ds es hE.dr))
            refine ⟨tx [32], D5, (wordsD es).map tx, rfl, rfl, .inl (sqO hD5), (by rw [words_sum]; omega), ?_⟩
            rw [join_tx, hT]
            refine ⟨_, rfl, textE es, rfl, hsig, by have := hE.len; omega, fun H6 e6 => ?_⟩
            have f1 := figN_nn (textE es)
            have f2 := figN_lt (textE es)
            have fr1 : (figN (textE es) / 10).natAbs ≤ 999999999 := by omega
            have fr2 : (figN (textE es) - figN (textE es) / 10 * 10).natAbs ≤ 999999999 := by omega
            have m10 : figN (textE es) - figN (textE es) / 10 * 10 = figN (textE es) % 10 := by omega
            have zz : ∀ n : Nat, n ≤ 100000 → n ≤ sizeLine := fun n h => Nat.le_trans h (by decide)
            have n1 := num_len fr1
            have n2 := num_len fr2
            have eLen := hE.len
            have hLN6 := e6 _ _ (e5 _ _ hLN)
            have s1 : (tx (textE es)).length + (tx [32]).length ≤ sizeLine := zz _ (by rw [tx_len, tx_len]; simp only [List.length_singleton]; omega)
            have s2 : (tx (textE es) ++ tx [32]).length + (Str.ofString (toString (figN (textE es) / 10))).length ≤ sizeLine := zz _ (by rw [num_tx, tx_app, tx_len, tx_len]; simp only [List.length_singleton, List.length_append]; omega)
            have s3 : (tx (textE es) ++ tx [32] ++ Str.ofString (toString (figN (textE es) / 10))).length + (Str.ofString (toString (figN (textE es) - figN (textE es) / 10 * 10))).length ≤ sizeLine := zz _ (by rw [num_tx, num_tx, tx_app, tx_app, tx_len, tx_len]; simp only [List.length_singleton, List.length_append]; omega)
            have eV : tx (textE es) ++ tx [32] ++ Str.ofString (toString (figN (textE es) / 10)) ++ Str.ofString (toString (figN (textE es) - figN (textE es) / 10 * 10)) = tx (lineE es) := by
              rw [num_tx, num_tx, m10, tx_app, tx_app, tx_app]
              unfold lineE chk
              simp
            refine ⟨_, rfl, tyV_lst hLN6, _, rfl, tx (textE es), tx [32], rfl, rfl, s1, _, rfl, _, _, rfl, rfl, ⟨by decide, by decide⟩, _, rfl, log_lt fr1, _, _, rfl, rfl, s2, _, rfl, _, rfl, _, _, rfl, rfl, ⟨by decide, by decide⟩, _, _, rfl, rfl, .inr ⟨by decide, by decide⟩, _, _, rfl, rfl, _, rfl, log_lt fr2, _, _, rfl, rfl, s3, LN, _, _, rfl, rfl, hLN6, ?_, ?_⟩
            · unfold strsV
              rw [List.length_map, List.length_map]
              exact Nat.lt_of_le_of_lt (show _ ≤ 1000 by have := List.length_take_le i dss; omega) (by decide)
            · have nLNH := nLN
              have eG6 : Same H2 (upd H6 LN (.lst (strsV ((dss.take i).map lineE) ++ [.str (tx (textE es) ++ tx [32] ++ Str.ofString (toString (figN (textE es) / 10)) ++ Str.ofString (toString (figN (textE es) - figN (textE es) / 10 * 10)))]))) := same_put (((e.trans e5).trans e6)) nLN
              rw [eV] at eG6 ⊢
              have hLN7 := upd_same (H := H6) (a := LN) (o := HO.lst (strsV ((dss.take i).map lineE) ++ [.str (tx (lineE es))]))
              have sx7 : SqT K (upd H6 LN (.lst (strsV ((dss.take i).map lineE) ++ [.str (tx (lineE es))]))) ea exs := (Imk.put (hLN6) rfl).sqt (e6.sqt (e5.sqt sx))
              have ax7 : DpAll K (upd H6 LN (.lst (strsV ((dss.take i).map lineE) ++ [.str (tx (lineE es))]))) exs es := DpAll.keep (Imk.put hLN6 rfl) _ _ (frozen_drawnAll _ hE.dr) (DpAll.mono (e5.trans e6) _ _ ax)
              generalize upd H6 LN (.lst (strsV ((dss.take i).map lineE) ++ [.str (tx (lineE es))])) = G7 at eG6 hLN7 sx7 ax7 ⊢
              refine ⟨_, rfl, _, es, rfl, .tup sx7 ax7, hE.ok, hE.dr, by omega, fun G8 e8 => ?_⟩
              have hLN8 := e8 _ _ hLN7
              refine ⟨_, rfl, _, rfl, LN, _, _, .str (tx (lineE es)), rfl, rfl, sqO hLN8, atI_last _ _, rfl, _, rfl, ?_⟩
              refine if_f (by simp) ?_
              refine ⟨_, rfl, _, rfl, LN, _, _, .str (tx (lineE es)), rfl, rfl, sqO hLN8, atI_last _ _, _, .str (tx (lineE es)), rfl, .str _, (by rw [fits, tx_list]; exact hE.good.1), fun qs hqs v5 G9 e9 hv5 => ?_, fun hn => absurd (by rw [evD, tx_list] at hn; exact hn) hE.good.2⟩
              rw [evD, tx_list, evIn_drawn hE.dr] at hqs
              cases hqs
              refine ⟨_, rfl, textE es, rfl, hsig, by omega, fun G10 e10 => ?_⟩
              refine ⟨(show 2 ≤ sizeLine by decide), fun t1 nt1 => ?_⟩
              refine ⟨_, rfl, _, rfl, (show 2 ≤ sizeLine by decide), fun t2 nt2 => ?_⟩
              have f1 := same_new (o := .tup [v5, .int (figN (textE es))]) nt1
              have f2 := f1.trans (same_new (o := .tup [.ref ea, .int (figN (textE es))]) nt2)
              have f0 : Same G8 _ := (e9.trans e10).trans f2
              refine ⟨.ref t1, .ref t2, .tuple [.tuple es, .int (figN (textE es))], rfl, .tup (stO (same_new nt2 _ _ upd_same)) (dp_all2 (Dp.mono (e10.trans f2) _ _ hv5) (.int _)), .tup (stO upd_same) (dp_all2 (.tup ((e8.trans f0).sqt sx7) (DpAll.mono (e8.trans f0) _ _ ax7)) (.int _)), ?_, by decide, fun G11 e11 => ⟨true, rfl, if_f rfl ⟨hi, ((eG6.trans e8).trans f0).trans e11, ?_, _, _, _, _, rfl⟩⟩⟩
              · refine okd_tup2 (n := 29) (okd_le (n := 29) (m := 23) ⟨by omega, fun d hd => ev_okd (hE.ok d hd) ?_⟩ (by decide)) (show okd 29 (.int _) from trivial)
                have := mem_sumW hd
                omega
              · rw [(f0.trans e11) _ _ hLN8, List.take_succ, List.getElem?_eq_getElem hi, hes]
                unfold strsV
                rw [List.map_append, List.map_append]
                rfl
      · rintro σ G ⟨_, e, hLN, b, c, d, e', rfl⟩
        rw [hxl, List.take_length] at hLN
        have e0 := e
        have hc12 : ∀ l ∈ dss.map lineE, l.count 40 ≤ 12 := fun l hl => by
          obtain ⟨es, he, rfl⟩ := List.mem_map.mp hl
          exact (hEv es he).2
        generalize hls : dss.map lineE = ls at hLN hc12
        have hll : ls.length = dss.length := by rw [← hls, List.length_map]
        have hd5 : dss.length ≤ 5 := by omega
        have hDG := e _ _ hD
        refine ⟨_, rfl, Dl, xs, dss, rfl, sqO hDG, DpAll.mono e _ _ hv, fun ds hds => (hEv ds hds).1, by omega, fun M G1 e1 hM => ?_⟩
        rw [hls] at hM
        obtain ⟨mx, mt, hMo, hMt, hL⟩ := id hM
        have hev : ls.map evIn = dss.map some := by
          rw [← hls, List.map_map]
          exact List.map_congr_left fun es he => evIn_drawn (hEv es he).1.dr
        have hLN1 := e1 _ _ hLN
        have hD1 := e1 _ _ hDG
        have hok : okd 30 (.tuple [.tuple (strsD ls), .int (ls.length : Nat), .tuple (dss.map PyData.tuple)]) := by
          have hE2 : ∀ es ∈ dss, okd 27 (.tuple es) := fun es he => by
            have hE := (hEv es he).1
            have ln := len_sumW es
            have jl := join_len es
            have el := hE.len
            unfold textE at el
            refine okd_le (m := 23) ⟨by omega, fun d hd => ev_okd (hE.ok d hd) ?_⟩ (by decide)
            have := mem_sumW hd
            omega
          refine ⟨by show 3 ≤ 1000000; decide, fun d hd => ?_⟩
          rcases List.mem_cons.mp hd with rfl | hd
          · refine okd_le (lines_okd (fun l hl => ?_) (by omega)) (by decide)
            exact hL.1 l hl
          rcases List.mem_cons.mp hd with rfl | hd
          · exact (show okd 29 (.int _) from trivial)
          rw [List.mem_singleton.mp hd]
          refine ⟨by rw [List.length_map]; omega, fun d hd => ?_⟩
          obtain ⟨es, he, rfl⟩ := List.mem_map.mp hd
          exact okd_succ (hE2 es he)
        refine ⟨_, rfl, M, _, mx, _, _, rfl, hMo, T.cl_Archive, T.n_Archive_lines, rfl, ?_⟩
        refine ⟨_, rfl, M, mx, _, rfl, hMo, M, ls, rfl, hM, _, rfl, ⟨by omega, by omega⟩, ?_⟩
        refine ⟨_, rfl, M, mx, _, rfl, hMo, rfl, M, ls, dss, rfl, hM, hev, fun v2 G2 e2' hv2 => ?_⟩
        have hLN2 := e2' _ _ hLN1
        have hD2 := e2' _ _ hD1
        refine ⟨(show 3 ≤ sizeLine by decide), fun t1 nt1 => ?_⟩
        have g1 := same_new (o := .tup [.ref mt, .int (ls.length : Nat), v2]) nt1
        refine ⟨_, rfl, LN, _, rfl, .inl ⟨sqO (g1 _ _ hLN2), fun t2 nt2 => ?_⟩⟩
        have g2 := g1.trans (same_new (o := .tup (strsV ls)) nt2)
        refine ⟨_, rfl, LN, _, rfl, .inl (sqO (g2 _ _ hLN2)), ?_⟩
        refine ⟨_, rfl, Dl, _, rfl, .inl ⟨sqO (g2 _ _ hD2), fun t3 nt3 => ?_⟩⟩
        have n3 := same_new (o := .tup xs) nt3
        have g3 := g2.trans n3
        refine ⟨(show 3 ≤ sizeLine by decide), fun t4 nt4 => ?_⟩
        have n4 := same_new (o := .tup [.ref t2, .int ((strsV ls).length : Nat), .ref t3]) nt4
        have g4 := g3.trans n4
        have dp3 : ∀ {G : Hp} {x y z : V} {d1 d2 d3 : PyData}, Dp K G x d1 → Dp K G y d2 → Dp K G z d3 → DpAll K G [x, y, z] [d1, d2, d3] := fun h1 h2 h3 => .cons h1 (.cons h2 (.cons h3 .nil))
        have gA := e1.trans (e2'.trans g4)
        refine ⟨.ref t1, .ref t4, _, rfl, .tup (stO (((same_new nt2).trans n3).trans n4 _ _ upd_same)) (dp3 (.tup ((e2'.trans g4).sqt hMt) (strs_dp ls)) (.int _) (Dp.mono g4 _ _ hv2)), .tup (stO upd_same) (dp3 (.tup (stO (n3.trans n4 _ _ upd_same)) (strs_dp ls)) (by rw [strs_len]; exact .int _) (.tup (stO (n4 _ _ upd_same)) (DpAll.mono (e.trans gA) _ _ hv))), hok, by decide, fun G5 e5 => ⟨true, rfl, if_f rfl ⟨_, rfl, _, rfl, ?_⟩⟩⟩
        have gB := gA.trans e5
        intro x1 dx1 nx1 ndx1 ne1
        refine use_initR nx1 ndx1 ne1 rfl (.inl (sqO ((e2'.trans (g4.trans e5)) _ _ hLN1))) hL fun G6 e6 hx1 => ⟨rfl, ?_⟩
        have hM6 := e2'.trans (g4.trans (e5.trans e6))
        obtain ⟨dx6, tx6, hx6, _, _⟩ := id hx1
        refine ⟨M, mx, _, _, rfl, hM6 _ _ hMo, T.ty_Archive.tyx hx6, T.nf_AA, M, ls, x1, rfl, hM.mono hM6, .inl ⟨ls, hx1, _, rfl, _, rfl, if_f (by simp) ?_⟩⟩
        have hLN6 := hM6 _ _ hLN1
        refine ⟨_, rfl, _, rfl, LN, _, rfl, .inl ⟨sqO hLN6, fun t5 nt5 => ?_⟩⟩
        have hM7 := hM6.trans (same_new (o := .tup (strsV ls)) nt5)
        refine ⟨M, mx, _, _, rfl, hM7 _ _ hMo, tyx_t (stO upd_same), T.nf_At, M, ls, t5, rfl, hM.mono hM7, .inr ⟨⟨_, stO upd_same⟩, _, rfl, _, rfl, if_f rfl ?_⟩⟩
        have hLN7 := hM7 _ _ hLN1
        have hL2 := hL.2
        refine ⟨⟨_, rfl⟩, _, rfl, LN, rfl, ⟨_, sqO hLN7⟩, fun D7 nD7 => lc_map (walk_list (xs := strsV ls)) nD7 (fun i => .str (tx (ls.getD i [] ++ [10]))) (by rw [strs_len]; omega) (fun H' e => sqO (e _ _ hLN7)) (fun _ _ _ _ _ y => by obtain ⟨rfl, _⟩ := y; exact Same.refl _) (fun x => rfl) (fun i x H1 H2 hi e y Q' q => ?_) (fun H8 e8 hD8 => ?_)⟩
        · obtain ⟨rfl, hx⟩ := y
          obtain ⟨l, hl, rfl⟩ := strs_at hx
          have hg := hL.1 l (List.mem_of_getElem? hl)
          rw [getD_some hl] at q
          have := hg.1.1
          refine ⟨_, rfl, rfl, tx l, tx [10], rfl, rfl, (by rw [tx_len, tx_len]; exact Nat.le_trans (show _ ≤ 2000 by simp only [List.length_singleton]; omega) (by decide)), ?_⟩
          rw [tx_app]
          exact q _ (Same.refl _)
        · have ee : (List.range (strsV ls).length).map (fun i => V.str (tx (ls.getD i [] ++ [10]))) = (((ls.map fun l => l ++ [10])).map tx).map V.str := by
            rw [strs_len, range_map ls [] fun l => V.str (tx (l ++ [10]))]
            simp
          rw [ee] at hD8
          refine ⟨tx [], D7, _, rfl, rfl, .inl (sqO hD8), ?_, ?_⟩
          · have := len_sum1 ls hL.1
            rw [tx_len]
            simp only [List.length_nil, Nat.mul_zero, Nat.add_zero]
            omega
          · rw [join_tx]
            have eT : joinL [] (ls.map fun l => l ++ [10]) = textL ls := joinL_nil _
            rw [eT]
            have hM8 := hM7.trans e8
            obtain ⟨dM8, tM8, hMo8, _, _⟩ := hM.mono hM8
            refine ⟨_, rfl, M, _, _, rfl, hMo8, rfl, M, ls, rfl, hM.mono hM8, fun G9 e9 => ?_⟩
            have hM9 := hM8.trans e9
            refine ⟨_, rfl, rfl, _, rfl, if_f (by simp) ?_⟩
            refine ⟨_, rfl, _, _, rfl, .str _, .inl ⟨ls, rfl, hL, fun M2 G10 e10 hM2 => ?_⟩⟩
            have hM10 := hM9.trans e10
            obtain ⟨dM2, tM2, hMo2, _, _⟩ := id hM2
            refine ⟨_, rfl, M2, _, _, _, rfl, hMo2, T.ty_Archive.tyx (hM10 _ _ hMo), T.nf_AA, M2, ls, M, rfl, hM2, .inl ⟨ls, hM.mono hM10, _, rfl, _, rfl, if_f (by simp) ?_⟩⟩
            refine ⟨by decide, fun CH nCH => ⟨_, _, rfl, ?_⟩⟩
            have hM11 := hM10.trans (same_new (o := .lst []) nCH)
            have hLN11 := hM11 _ _ hLN1
            generalize hG11 : upd G10 CH (.lst []) = G11 at hM11 hLN11
            have hCH : G11 CH = some (.lst []) := by rw [← hG11]; exact upd_same
            have nCH1 := none_back hM10 nCH
            refine ⟨_, rfl, LN, rfl, ⟨_, sqO hLN11⟩, ?_⟩
            change Exists _
            refine for_it (walk_list (xs := strsV ls)) (fun i σ G => i ≤ ls.length ∧ Same G1 G ∧ G CH = some (.lst ((chainL (ls.take i) 0).map V.int)) ∧ ∃ b c d f g, σ = [some (.ref a), some (.ref r), some (.ref Dl), some (.ref LN), b, c, d, some (.ref M), f, some (.ref CH), some (.int (hereL (ls.take i) 0)), none, none, none, none, none, none, none, none, g]) ⟨Nat.zero_le _, hM11, hCH, _, _, _, _, _, rfl⟩ (fun i σ G hi h => sqO (h.2.1 _ _ hLN1)) ?_ ?_
            · rintro i x σ G' G hi ⟨_, e, hCH2, b, c, d, f, g, rfl⟩ ⟨rfl, hx⟩
              obtain ⟨l, hl, rfl⟩ := strs_at hx
              have hg := hL.1 l (List.mem_of_getElem? hl)
              have hb := hereL_lt (ls.take i) 0 (by decide)
              rw [strs_len] at hi
              refine ⟨_, rfl, _, _, rfl, rfl, .inr ⟨by decide, by decide⟩, ?_⟩
              refine ⟨_, rfl, l, rfl, good_sig hg, by have := hg.1.1; omega, fun G2 e2 => ?_⟩
              refine ⟨_, _, rfl, rfl, ?_⟩
              refine ⟨_, rfl, _, rfl, _, _, rfl, rfl, ⟨by decide, by decide⟩, _, _, rfl, rfl, .inr ⟨by decide, by decide⟩, _, _, rfl, rfl, ?_⟩
              have hCH3 := e2 _ _ hCH2
              have hh : hereL (ls.take i) 0 * 31 + figN l - (hereL (ls.take i) 0 * 31 + figN l) / 997 * 997 = hereL (ls.take (i + 1)) 0 := by
                rw [List.take_succ, hl]
                show _ = hereL (ls.take i ++ [l]) 0
                rw [hereL_app]
                omega
              have hc : chainL (ls.take (i + 1)) 0 = chainL (ls.take i) 0 ++ [hereL (ls.take (i + 1)) 0] := by
                rw [List.take_succ, hl]
                show chainL (ls.take i ++ [l]) 0 = _ ++ [hereL (ls.take i ++ [l]) 0]
                rw [hereL_app, chainL_app]
              refine ⟨_, rfl, tyV_lst hCH3, _, rfl, CH, _, _, rfl, rfl, hCH3, ?_, hi, same_put (e.trans e2) nCH1, ?_, b, c, d, some (.str (tx l)), g, by rw [← hh]; rfl⟩
              · rw [List.length_map, chainL_len]
                exact Nat.lt_of_le_of_lt (show _ ≤ 1000 by have := List.length_take_le i ls; omega) (by decide)
              · rw [upd_same, hc, List.map_append, ← hh]
                rfl
            · rintro σ G ⟨_, e, hCH2, b, c, d, f, g, rfl⟩
              rw [strs_len, List.take_length] at hCH2
              obtain ⟨dM3, tM3, hMo3, _, _⟩ := hM.mono e
              refine ⟨_, rfl, M, _, _, rfl, hMo3, rfl, M, ls, rfl, hM.mono e, fun t8 G2 e2 ht8 => ?_⟩
              have hCH3 := e2 _ _ hCH2
              refine ⟨_, rfl, CH, _, rfl, .inl ⟨sqO hCH3, fun t9 nt9 => ?_⟩⟩
              have n9 := same_new (o := .tup ((chainL ls 0).map V.int)) nt9
              refine ⟨.ref t8, .ref t9, _, rfl, .tup (n9.sqt ht8) (dp_ints _), .tup (stO upd_same) (dp_ints _), ⟨by rw [List.length_map, chainL_len]; omega, fun d hd => ?_⟩, by decide, fun G3 e3 => ⟨true, rfl, if_f rfl ?_⟩⟩
              · obtain ⟨i, _, rfl⟩ := List.mem_map.mp hd
                trivial
              have eA := e.trans (e2.trans (n9.trans e3))
              have hLN3 := eA _ _ hLN1
              refine ⟨_, rfl, _, rfl, LN, _, rfl, sqO hLN3, fun L2 nL2 => ?_⟩
              have n10 := same_new (o := .lst (cutV (strsV ls) none (some 2))) nL2
              have R4 := (((R2.same e0).same e1).same eA).same n10
              have hL2r := row_ne ((((R2.same e0).same e1).same eA)) nL2
              refine ⟨L2, rfl, ⟨_, sqO upd_same⟩, ?_⟩
              change Exists _
              have hL2 : upd G3 L2 (.lst (cutV (strsV ls) none (some 2))) L2 = some (.lst (strsV (ls.take 2))) := by
                rw [upd_same]
                unfold strsV
                rw [show (2 : Int) = ((2 : Nat) : Int) from rfl, cutV_take]
              have eB : SameBut r G1 (upd G3 L2 (.lst (cutV (strsV ls) none (some 2)))) := but_same (eA.trans n10)
              generalize upd G3 L2 (.lst (cutV (strsV ls) none (some 2))) = G4 at hL2 eB R4 ⊢
              have hLr : LN ≠ r := row_ne R2 nLN
              have hMr : M ≠ r := fun q => by
                obtain ⟨xs, hx⟩ := (R2.same (e0.trans e1)).some
                rw [← q, hMo] at hx
                cases hx
              refine for_it (walk_list (xs := strsV (ls.take 2))) (fun i σ G => SameBut r G4 G ∧ RowI K a r G ∧ ∃ b c d f h p s o fo ee g, σ = [some (.ref a), some (.ref r), some (.ref Dl), some (.ref LN), b, c, d, some (.ref M), f, some (.ref CH), h, p, s, o, fo, ee, none, none, none, g]) ⟨SameBut.refl, R4, _, _, _, _, _, _, _, _, _, _, _, rfl⟩ (fun i σ G hi h => sqO (h.1 _ _ hL2r hL2)) ?_ ?_
              · rintro i x σ G' G hi ⟨e4, R5, b, c, d, f, h, p, s, o, fo, ee, g, rfl⟩ ⟨rfl, hx⟩
                obtain ⟨l, hl, rfl⟩ := strs_at hx
                have hmem : l ∈ ls := List.mem_of_mem_take (List.mem_of_getElem? hl)
                have hg := hL.1 l hmem
                have hcnt := hc12 l hmem
                have hlen : 3 ≤ l.length ∧ l.length ≤ 1000 := by
                  refine ⟨?_, hg.1.1⟩
                  cases q : evIn l with
                  | none => exact absurd q hg.2
                  | some ds =>
                    have := (evIn_line q).1
                    rw [← this, line_len]
                    omega
                have zz : ∀ n : Nat, n ≤ 100000 → n ≤ sizeLine := fun n h => Nat.le_trans h (by decide)
                have hsz : (tx l).length ≤ sizeLine := zz _ (by rw [tx_len]; omega)
                refine ⟨_, rfl, _, rfl, tx l, rfl, hsz, ?_⟩
                rw [tx_len]
                refine ⟨a, r, l.length, rfl, R5, by omega, by omega, fun m G5 m1 m2 b5 R6 => ?_⟩
                obtain ⟨pl, rfl⟩ : ∃ pl : Nat, m = pl := ⟨m.toNat, by omega⟩
                have hpl : pl < l.length := by omega
                refine ⟨_, rfl, ?_⟩
                change Exists _
                refine for_it walk_str (fun i σ G => Same G5 G ∧ ∃ s o fo ee, σ = [some (.ref a), some (.ref r), some (.ref Dl), some (.ref LN), b, c, d, some (.ref M), some (.str (tx l)), some (.ref CH), h, some (.int pl), s, o, fo, ee, none, none, none, g]) ⟨Same.refl _, _, _, _, _, rfl⟩ (fun _ _ _ _ _ => trivial) ?_ ?_
                · rintro i x σ G' G hi ⟨e6, s, o, fo, ee, rfl⟩ ⟨rfl, cc, hcc, rfl⟩
                  have ec : cutS (tx l) none (some (pl : Int)) = tx (l.take pl) := cut_to l pl
                  have ed : cutS (tx l) (some ((pl : Int) + 1)) none = tx (l.drop (pl + 1)) := cut_from l (pl + 1)
                  have hsw : tx (l.take pl) ++ ⟨#[cc]⟩ ++ tx (l.drop (pl + 1)) = tx (swap l pl cc) := by
                    show tx (l.take pl) ++ tx [cc] ++ tx (l.drop (pl + 1)) = _
                    rw [tx_app, tx_app]
                    rfl
                  have swl : (swap l pl cc).length = l.length := swap_len hpl
                  refine ⟨_, rfl, _, rfl, _, rfl, _, rfl, hsz, _, rfl, _, _, rfl, rfl, ?_, _, rfl, _, rfl, _, _, rfl, rfl, _, rfl, _, rfl, hsz, _, _, rfl, rfl, ?_, ?_⟩
                  · rw [ec, tx_len, List.length_take]
                    exact zz _ (show _ + 1 ≤ _ by omega)
                  · rw [ec, ed]
                    show (tx (l.take pl) ++ tx [cc]).length + _ ≤ _
                    rw [tx_app, tx_len, tx_len, List.length_append, List.length_take, List.length_drop]
                    exact zz _ (show _ + 1 + _ ≤ _ by omega)
                  rw [ec, ed, hsw]
                  have swc := swap_cnt (c := cc) hpl
                  have hfit : fitL (swap l pl cc) := ⟨by omega, by omega⟩
                  have cne : ∀ m : List Nat, decide (V.str (tx m) = V.str (tx (swap l pl cc))) = decide (m = swap l pl cc) := fun m => dec_tx _ _
                  have cne2 : decide (V.str (tx (swap l pl cc)) = V.str (tx l)) = decide (swap l pl cc = l) := dec_tx _ _
                  have hsig : (swap l pl cc).all isSig = true := swap_sig (good_sig hg) (sign_sig hcc)
                  have shS : SeqAt.shaped (.str (tx (swap l pl cc))) = true := okd_shaped (n := 1) (sig_strOk hsig) (by decide)
                  have hsz2 : (tx (swap l pl cc)).length ≤ sizeLine := zz _ (by rw [tx_len]; omega)
                  refine ⟨_, rfl, _, .str (tx (swap l pl cc)), rfl, .str _, (by rw [fits, tx_list]; exact hfit), fun ds hds v G2 e2 hv => ?_, fun hn p G2 e2 np hp => ⟨true, T.x_BadNote, fun _ q nq => ?_, fun q => nomatch q⟩⟩
                  · rw [evD, tx_list] at hds
                    obtain ⟨hle, hok, hdr⟩ := evIn_line hds
                    have hlt := line_len ds
                    rw [hle] at hlt
                    refine ⟨_, rfl, _, ds, rfl, hv, evIn_ok hds hfit, ev_drawn hds, by omega, fun G3 e3 => ?_⟩
                    rw [hle]
                    refine ⟨_, rfl, rfl, _, rfl, if_f (by simp) ?_⟩
                    refine ⟨_, rfl, _, rfl, rfl, _, rfl, ite2 (fun h1 => ?_) (fun h1 => ?_)⟩
                    · refine ⟨_, rfl, _, _, rfl, rfl, _, rfl, ite2 (fun h2 => ?_) (fun h2 => if_f rfl ⟨(e6.trans e2).trans e3, _, _, _, _, rfl⟩)⟩
                      refine ⟨_, rfl, _, rfl, hsz, _, _, rfl, rfl, _, rfl, ite2 (fun h3 => ?_) (fun h3 => if_f rfl ⟨(e6.trans e2).trans e3, _, _, _, _, rfl⟩)⟩
                      have k1 : cutS (tx (swap l pl cc)) none (some (-3)) = tx ((swap l pl cc).take ((swap l pl cc).length - 3)) := cut_toN _ 3 (by decide)
                      have k2 : cutS (tx l) none (some (-3)) = tx (l.take (l.length - 3)) := cut_toN l 3 (by decide)
                      have k3 : cutS (tx (swap l pl cc)) (some (-2)) none = tx ((swap l pl cc).drop ((swap l pl cc).length - 2)) := cut_fromN _ 2 (by decide)
                      have k4 : cutS (tx l) (some (-2)) none = tx (l.drop (l.length - 2)) := cut_fromN l 2 (by decide)
                      have l1 := (evIn_line hds).2.2
                      have hgo : ∃ qs, evIn l = some qs := by
                        cases q : evIn l with
                        | none => exact absurd q hg.2
                        | some qs => exact ⟨qs, rfl⟩
                      obtain ⟨qs, hqs⟩ := hgo
                      have l2 := (evIn_line hqs).2.2
                      have sg1 : ((swap l pl cc).take ((swap l pl cc).length - 3)).all isSig = true := List.all_eq_true.mpr fun c hc => List.all_eq_true.mp hsig c (List.mem_of_mem_take hc)
                      have sg2 : (l.take (l.length - 3)).all isSig = true := List.all_eq_true.mpr fun c hc => List.all_eq_true.mp (good_sig hg) c (List.mem_of_mem_take hc)
                      refine ⟨_, rfl, _, rfl, _, rfl, _, rfl, hsz2, ?_⟩
                      rw [k1]
                      refine ⟨_, rfl, sg1, (by rw [List.length_take]; omega), fun G7 e7 => ?_⟩
                      refine ⟨_, rfl, _, rfl, _, rfl, _, rfl, hsz, ?_⟩
                      rw [k2]
                      refine ⟨_, rfl, sg2, (by rw [List.length_take]; omega), fun G8 e8 => ?_⟩
                      refine ⟨rfl, _, rfl, _, rfl, _, rfl, _, rfl, hsz2, ?_⟩
                      rw [k3]
                      refine ⟨_, rfl, _, rfl, _, rfl, _, rfl, hsz, ?_⟩
                      rw [k4]
                      refine ⟨rfl, rfl, _, rfl, if_f ?_ ⟨(((e6.trans e2).trans e3).trans e7).trans e8, _, _, _, _, rfl⟩⟩
                      rw [dec_tx, l1, l2]
                      have e1 : decide (V.int (figN (List.take ((swap l pl cc).length - 3) (swap l pl cc))) = V.int (figN (List.take (l.length - 3) l))) = decide (chk (List.take ((swap l pl cc).length - 3) (swap l pl cc)) = chk (List.take (l.length - 3) l)) :=
                        decide_eq_decide.mpr ⟨fun q => by injection q with q; exact chk_iff.mpr q, fun q => by rw [chk_iff.mp q]⟩
                      rw [e1]
                      simp
                    · exact if_f rfl ⟨(e6.trans e2).trans e3, _, _, _, _, rfl⟩
                  · rw [evD, tx_list] at hn
                    have hne : swap l pl cc ≠ l := fun q => by
                      rw [q] at hn
                      exact hg.2 hn
                    refine ⟨_, rfl, _, rfl, rfl, _, rfl, if_f (by rw [cne2, decide_eq_false hne]) ?_⟩
                    refine ⟨_, rfl, rfl, C 0, rfl, T.e_BadNote.look, T.e_BadNote.noN, p, _, _, rfl, hp, rfl, _, rfl, _, _, .str _, .str _, shS, shS, _, rfl, if_f (by rw [SeqAt.eqv_refl _ (SeqAt.canLay_of_shaped shS)]; rfl) ?_⟩
                    exact ⟨e6.trans e2, _, _, _, _, rfl⟩
                · rintro σ G ⟨e6, s, o, fo, ee, rfl⟩
                  exact ⟨e4.trans (b5.sb.trans (but_same e6)), R6.same e6, _, _, _, _, _, _, _, _, _, _, _, rfl⟩
              · rintro σ G ⟨e4, R5, b, c, d, f, h, p, s, o, fo, ee, g, rfl⟩
                have eC := eB.trans e4
                have hLN5 := eC _ _ hLr hLN1
                refine ⟨_, rfl, _, rfl, a, r, LN, ls, rfl, R5, hLN5, hLr, by omega, fun SH ms G5 e5 R6 _ nSH hml hmm hSH => ?_⟩
                have eD := eC.trans e5
                have hLN6 := e5 _ _ hLr hLN5
                have hSHr : SH ≠ r := row_ne R5 nSH
                refine ⟨_, rfl, LN, _, rfl, .inl (sqO hLN6), _, rfl, by rw [strs_len]; omega, by rw [strs_len]; omega, fun DU nDU => ?_⟩
                rw [strs_len, Int.toNat_natCast]
                refine lc_it walk_range0 (fun i H => i ≤ ls.length ∧ Same G5 H ∧ H DU = some (.lst ((unl ls ms i).map fun k : Nat => V.int k))) ⟨Nat.zero_le _, same_new nDU, upd_same⟩ (fun _ _ _ _ => trivial) (fun i x H H' hi ⟨_, e, hD⟩ y => ?_) (fun H ⟨_, e, hD⟩ => ?_)
                · obtain ⟨rfl, rfl⟩ := y
                  have hmi : ms[i]? = some (ms[i]'(by omega)) := List.getElem?_eq_getElem _
                  have hli : ls[i]? = some ls[i] := List.getElem?_eq_getElem hi
                  have a1 : atI (strsV ms) (i : Int) = some (.str (tx (ms[i]'(by omega)))) := atI_nat (by rw [strs_get, hmi]; rfl)
                  have a2 : atI (strsV ls) (i : Int) = some (.str (tx ls[i])) := atI_nat (by rw [strs_get, hli]; rfl)
                  refine ⟨rfl, _, rfl, _, rfl, SH, _, _, _, rfl, rfl, sqO (e _ _ hSH), a1, _, rfl, _, rfl, LN, _, _, _, rfl, rfl, sqO (e _ _ hLN6), a2, rfl, _, rfl, ?_⟩
                  have cd : (!decide (V.str (tx (ms[i]'(by omega))) = V.str (tx ls[i]))) = decide (ms[i]? ≠ ls[i]?) := by
                    rw [dec_tx, hmi, hli]
                    simp
                  rw [cd]
                  refine ite2 (fun h1 => ?_) (fun h1 => ?_)
                  · have h2 : ms[i]? ≠ ls[i]? := of_decide_eq_true h1
                    have := unl_len ls ms i
                    refine ⟨_, rfl, _, hD, ?_, hi, same_put e nDU, ?_⟩
                    · rw [List.length_map]
                      exact Nat.lt_of_le_of_lt (show _ ≤ 1000 by omega) (by decide)
                    · rw [upd_same, unl_succ, if_pos h2, List.map_append]
                      rfl
                  · have h2 : ¬ ms[i]? ≠ ls[i]? := fun q => h1 (decide_eq_true q)
                    refine ⟨hi, e, ?_⟩
                    rw [unl_succ, if_neg h2, List.append_nil]
                    exact hD
                · have eE : SameBut r G1 H := eD.trans (but_same e)
                  have hLN7 := e _ _ hLN6
                  have hSH7 := e _ _ hSH
                  have hMs : Lines ms := ⟨fun m hm => hL.1 m (hmm m hm), by rw [hml]; exact hL.2⟩
                  have hM7 : arcAt K (C 2) H M ls := ⟨mx, mt, eE _ _ hMr hMo, (eE.imk (R2.same (e0.trans e1))).sqt hMt, hL⟩
                  obtain ⟨dM7, tM7, hMo7, _, _⟩ := id hM7
                  have R7 := R6.same e
                  refine ⟨_, rfl, M, _, _, rfl, hMo7, rfl, _, rfl, ?_⟩
                  intro x2 dx2 nx2 ndx2 ne2
                  refine use_initR nx2 ndx2 ne2 rfl (.inl (sqO hSH7)) hMs fun G8 e8 hx2 => ⟨rfl, ?_⟩
                  refine ⟨M, ls, x2, ms, rfl, hM7.mono e8, hx2, fun G9 e9 => ?_⟩
                  have eF := e8.trans e9
                  refine ⟨_, rfl, by decide, fun q1 nq1 => ?_⟩
                  have n1 := same_new (o := .lst [V.non]) nq1
                  have hun := unl_len ls ms ls.length
                  refine ⟨DU, q1, _, _, rfl, rfl, n1 _ _ (eF _ _ hD), upd_same, ?_, fun q2 nq2 => ?_⟩
                  · rw [List.length_map]
                    exact Nat.le_trans (show _ + 1 ≤ 1000 by omega) (by decide)
                  have n2 := n1.trans (same_new (o := .lst ((unl ls ms ls.length).map (fun k : Nat => V.int k) ++ [V.non])) nq2)
                  obtain ⟨d7, hd7, sd7⟩ := unlike_dp ls ms (max ls.length ms.length)
                  refine ⟨q2, _, _, _, rfl, rfl, sqO upd_same, atI_zero (unl_head hml), d7, d7, hd7 _ _, hd7 _ _, sd7, sd7, _, rfl, if_f (by rw [SeqAt.eqv_refl _ (SeqAt.canLay_of_shaped sd7)]; rfl) ?_⟩
                  have eG := eF.trans n2
                  obtain ⟨dM9, tM9, hMo9, _, _⟩ := hM7.mono eG
                  have hLN9 := eG _ _ hLN7
                  refine ⟨_, rfl, M, _, _, rfl, hMo9, rfl, _, rfl, by decide, fun q3 nq3 => ?_⟩
                  have n3 := same_new (o := .lst [V.str (Str.ofString "a 01")]) nq3
                  refine ⟨LN, q3, _, _, rfl, rfl, n3 _ _ hLN9, upd_same, ?_, fun q4 nq4 => ?_⟩
                  · rw [strs_len]
                    exact Nat.le_trans (show _ + 1 ≤ 1000 by omega) (by decide)
                  have n4 := same_new (o := .lst (strsV ls ++ [V.str (Str.ofString "a 01")])) nq4
                  have e41 : strsV ls ++ [V.str (Str.ofString "a 01")] = strsV (ls ++ [[97, 32, 48, 49]]) := by
                    unfold strsV
                    rw [List.map_append]
                    rfl
                  have lin4 : Lines (ls ++ [[97, 32, 48, 49]]) := by
                    refine ⟨fun l hl => ?_, by rw [List.length_append, List.length_singleton]; omega⟩
                    rcases List.mem_append.mp hl with hl | hl
                    · exact hL.1 l hl
                    · rw [List.mem_singleton.mp hl]
                      exact good_a
                  intro x3 dx3 nx3 ndx3 ne3
                  refine use_initR nx3 ndx3 ne3 rfl (.inl (sqO (by rw [upd_same, e41]))) lin4 fun G10 e10 hx3 => ⟨rfl, ?_⟩
                  have eH := (eG.trans (n3.trans n4)).trans e10
                  refine ⟨M, ls, x3, _, rfl, hM7.mono eH, hx3, fun G11 e11 => ?_⟩
                  rw [unlike_one]
                  have eI := eH.trans e11
                  have hLNI := eI _ _ hLN7
                  refine ⟨_, rfl, LN, _, rfl, .inl (sqO hLNI), ?_⟩
                  rw [strs_len]
                  have shi : SeqAt.shaped (.int (ls.length : Nat)) = true := okd_shaped (n := 1) trivial (by decide)
                  refine ⟨_, _, .int _, .int _, shi, shi, _, rfl, if_f (by rw [SeqAt.eqv_refl _ (SeqAt.canLay_of_shaped shi)]; rfl) ?_⟩
                  refine ⟨_, rfl, (show 2 ≤ sizeLine by decide), fun t1 nt1 => ?_⟩
                  have j1 := same_new (o := .tup [V.str (Str.ofString "b"), V.int (-2)]) nt1
                  refine ⟨(show 3 ≤ sizeLine by decide), fun t2 nt2 => ?_⟩
                  have j2 := j1.trans (same_new (o := .tup [V.str (Str.ofString "a"), V.int 1, V.ref t1]) nt2)
                  have dEv : Dp K (upd (upd G11 t1 (.tup [V.str (Str.ofString "b"), V.int (-2)])) t2 (.tup [V.str (Str.ofString "a"), V.int 1, V.ref t1])) (.ref t2) (.tuple lawEv) :=
                    .tup (stO upd_same) (.cons (.str _) (.cons (.int _) (.cons (.tup (stO (same_new nt2 _ _ upd_same)) (dp_all2 (.str _) (.int _))) .nil)))
                  generalize upd (upd G11 t1 (.tup [V.str (Str.ofString "b"), V.int (-2)])) t2 (.tup [V.str (Str.ofString "a"), V.int 1, V.ref t1]) = G12 at j2 dEv ⊢
                  have eJ := eI.trans j2
                  obtain ⟨dM12, tM12, hMo12, _, _⟩ := hM7.mono eJ
                  refine ⟨_, rfl, M, _, _, rfl, hMo12, rfl, _, rfl, M, ls, _, _, rfl, hM7.mono eJ, dEv, lawEv_ok.wk, .inl ⟨lawEv, rfl, lawEv_ok, by omega, fun W1 G13 e13 hW1 => ?_⟩⟩
                  have eK := eJ.trans e13
                  have dEv2 := Dp.mono e13 _ _ dEv
                  refine ⟨_, rfl, _, rfl, _, lawEv, rfl, dEv2, lawEv_ok.ok, lawEv_ok.dr, by have := lawEv_ok.len; omega, fun G14 e14 => ?_⟩
                  have eL := eK.trans e14
                  refine ⟨(show 1 ≤ sizeLine by decide), fun q5 nq5 => ?_⟩
                  have n5 := same_new (o := .lst [V.str (tx (lineE lawEv))]) nq5
                  refine ⟨LN, q5, _, _, rfl, rfl, n5 _ _ (eL _ _ hLN7), upd_same, ?_, fun q6 nq6 => ?_⟩
                  · rw [strs_len]
                    exact Nat.le_trans (show _ + 1 ≤ 1000 by omega) (by decide)
                  have n6 := n5.trans (same_new (o := .lst (strsV ls ++ [V.str (tx (lineE lawEv))])) nq6)
                  have e61 : strsV ls ++ [V.str (tx (lineE lawEv))] = strsV (ls ++ [lineE lawEv]) := by
                    unfold strsV
                    rw [List.map_append]
                    rfl
                  have lin6 : Lines (ls ++ [lineE lawEv]) := by
                    refine ⟨fun l hl => ?_, by rw [List.length_append, List.length_singleton]; omega⟩
                    rcases List.mem_append.mp hl with hl | hl
                    · exact hL.1 l hl
                    · rw [List.mem_singleton.mp hl]
                      exact lawEv_ok.good
                  intro x4 dx4 nx4 ndx4 ne4
                  refine use_initR nx4 ndx4 ne4 rfl (.inl (sqO (by rw [upd_same, e61]))) lin6 fun G15 e15 hx4 => ⟨rfl, ?_⟩
                  have eW := e14.trans (n6.trans e15)
                  have hW2 := hW1.mono eW
                  obtain ⟨dW, tW, hWo, _, _⟩ := id hW2
                  obtain ⟨dX, tX, hXo, _, _⟩ := id hx4
                  refine ⟨W1, _, _, _, rfl, hWo, T.ty_Archive.tyx hXo, T.nf_AA, W1, _, x4, rfl, hW2, .inl ⟨_, hx4, _, rfl, _, rfl, if_f (by simp) ?_⟩⟩
                  exact ⟨_, rfl, M, ls, rfl, hM7.mono (eK.trans eW), fun H' => k H'⟩
end
end LW
set_option Elab.async false
set_option linter.all false
set_option maxRecDepth 100000
set_option maxHeartbeats 4000000
/-! Defs with one default, as k_is answers them. -/
namespace L2
open PySem PyProof.Rows
section
variable {K : PySem.W.Frag} {x qual : Str} {params : Arguments} {body : List Stmt} {scope : Scope} {f T : Addr} {fd : FuncData} {oc kV doc pm cdv ct tc : Value} {od an td : Option Addr} {osl tsl : Array (Option Value)} {v : Value} {m : Nat} {vv : V}
theorem funD_mk1 {c : Addr} (l : K.lookup f = some ⟨oc, od, .func (PySem.W.fnOf x qual params body scope (.ref T) kV doc pm an cdv ct), osl⟩) (hc : PySem.W.codeIn K cdv qual = true) (hk : PySem.W.keepIn K (.ref f) = true)
    (lT : K.lookup T = some ⟨tc, td, .seq #[.ref c] m, tsl⟩) : FunD K x qual params body scope [.ref c] [] f (PySem.W.fnOf x qual params body scope (.ref T) kV doc pm an cdv ct) :=
  ⟨⟨oc, od, .ref T, kV, doc, pm, an, cdv, ct, osl, rfl, l, hc, .inr ⟨(fun h => nomatch h), T, _, [.ref c], m, rfl, lT, rfl, .cons rfl .nil⟩, .inl rfl⟩, hk⟩
/-- the last argument left out -/
theorem bind_d {ps : List Str} (F : FunD K x qual params body scope [vv] [] f fd)
    (h : ∀ (T : Addr) (kV doc pm : Value) (an : Option Addr) (cdv ct : Value) (us : List Value) (d : Value), us.length + 1 = ps.length →
      ∃ k, bindArgs (PySem.W.fnOf x qual params body scope (.ref T) kV doc pm an cdv ct) ⟨us, []⟩ = seqItems? (.ref T) >>= k ∧ k (some #[d]) = pure (ps.zip (us ++ [d]))) (hp : 0 < ps.length := by decide) : ∃ ds, Vals [vv] ds ∧ Binds K fd ps ds :=
  F.binds1 (ps := ps) (ps.length - 1) 0 (fun h => nomatch h) (by simp; omega) fun T kV doc pm an cdv ct us its hu hi => by
    match its, hi with
    | [d], _ => exact h T kV doc pm an cdv ct us d (by omega)
/-- all arguments written -/
theorem bind_a {ps : List Str} (F : FunD K x qual params body scope [vv] [] f fd)
    (h : ∀ (T : Addr) (kV doc pm : Value) (an : Option Addr) (cdv ct : Value) (us : List Value) (d : Value), us.length = ps.length →
      ∃ k, bindArgs (PySem.W.fnOf x qual params body scope (.ref T) kV doc pm an cdv ct) ⟨us, []⟩ = seqItems? (.ref T) >>= k ∧ k (some #[d]) = pure (ps.zip us)) : Binds K fd ps [] := by
  obtain ⟨ds, hv, hb⟩ := F.binds1 (ps := ps) ps.length 1 (fun h => nomatch h) (by simp) fun T kV doc pm an cdv ct us its hu hi => by
    match its, hi with
    | [d], _ =>
      obtain ⟨k, e1, e2⟩ := h T kV doc pm an cdv ct us d hu
      exact ⟨k, e1, by rw [show ([d] : List Value).drop 1 = [] from rfl, List.append_nil]; exact e2⟩
  cases hv
  exact hb
end
end L2
set_option Elab.async false
set_option linter.all false
set_option maxRecDepth 100000
set_option maxHeartbeats 4000000
/-! k11: what is asked of the written part. Printed by fin.py. -/
namespace LW
open PySem PySem.W L2
theorem law_mk {prog : Program} {w : World} {K : Frag} {h : Heap} {mg : Str → Option Value} {fa C0 C1 C2 C3 C9 F0 F1 F2 F3 F4 F5 F6 F7 F8 F9 F10 F11 F12 F13 F14 F15 F16 F17 F18 F19 F20 F21 F22 F23 F24 F25 F26 F27 F28 F29 F30 F31 F32 : Addr} {D2 D3 D4 D5 D6 D7 D8 D9 D10 D11 D12 D13 D14 D15 D16 D17 D18 D19 D20 D21 D22 D23 D24 D25 D26 D27 D28 D29 D30 D31 D32 : FuncData} (X : K.In h) (G : h.Ns mainGlobals mg) (hfa : mg "law" = some (.ref fa))
    (z_isinstance : nsIn K mainGlobals "isinstance" = some none)
    (z_int : nsIn K mainGlobals "int" = some none)
    (z_bool : nsIn K mainGlobals "bool" = some none)
    (z_str : nsIn K mainGlobals "str" = some none)
    (z_list : nsIn K mainGlobals "list" = some none)
    (z_tuple : nsIn K mainGlobals "tuple" = some none)
    (z_len : nsIn K mainGlobals "len" = some none)
    (z_all : nsIn K mainGlobals "all" = some none)
    (z_enumerate : nsIn K mainGlobals "enumerate" = some none)
    (z_range : nsIn K mainGlobals "range" = some none)
    (z_max : nsIn K mainGlobals "max" = some none)
    (z_sorted : nsIn K mainGlobals "sorted" = some none)
    (z_repr : nsIn K mainGlobals "repr" = some none)
    (s_LETTERS : ∃ t, nsIn K mainGlobals "LETTERS" = some (some (.str tLETTERS t)))
    (s_FIGURES : ∃ t, nsIn K mainGlobals "FIGURES" = some (some (.str tFIGURES t)))
    (s_SIGNS : ∃ t, nsIn K mainGlobals "SIGNS" = some (some (.str tSIGNS t)))
    (s_LONGEST_NAME : ∃ t, nsIn K mainGlobals "LONGEST_NAME" = some (some (.int 12 t)))
    (s_MOST_LINES : ∃ t, nsIn K mainGlobals "MOST_LINES" = some (some (.int 400 t)))
    (c_BadNote : nsIn K mainGlobals "BadNote" = some (some (.ref C0)))
    (c_TooMany : nsIn K mainGlobals "TooMany" = some (some (.ref C1)))
    (c_Archive : nsIn K mainGlobals "Archive" = some (some (.ref C2)))
    (cl_Archive : Cls K C2)
    (m_Archive : Mk K C2 F12)
    (c_LadderError : nsIn K mainGlobals "LadderError" = some (some (.ref C3)))
    (n_Archive_lines : findIn K (.ref C2) "lines" = some none)
    (e_BadNote : PySem.LadX.ErrTxt prog K mg "BadNote" "line" C0 F0)
    (e_TooMany : PySem.LadX.ErrTxt prog K mg "TooMany" "limit" C1 F1)
    (g_is_whole : nsIn K mainGlobals "is_whole" = some (some (.ref F2)))
    (g_is_name : nsIn K mainGlobals "is_name" = some (some (.ref F3)))
    (g_figure : nsIn K mainGlobals "figure" = some (some (.ref F4)))
    (g_word_of : nsIn K mainGlobals "word_of" = some (some (.ref F5)))
    (g_line_of : nsIn K mainGlobals "line_of" = some (some (.ref F6)))
    (g_is_writable : nsIn K mainGlobals "is_writable" = some (some (.ref F7)))
    (g_number_in : nsIn K mainGlobals "number_in" = some (some (.ref F8)))
    (g_part_in : nsIn K mainGlobals "part_in" = some (some (.ref F9)))
    (g_words_in : nsIn K mainGlobals "words_in" = some (some (.ref F10)))
    (g_event_in : nsIn K mainGlobals "event_in" = some (some (.ref F11)))
    (mt_Archive___len__ : findIn K (.ref C2) "__len__" = some (some (.ref F13)))
    (mt_Archive___len___i : isFn K (.ref F13) = true)
    (mt_Archive___eq__ : findIn K (.ref C2) "__eq__" = some (some (.ref F14)))
    (mt_Archive___eq___i : isFn K (.ref F14) = true)
    (mt_Archive_events : findIn K (.ref C2) "events" = some (some (.ref F15)))
    (mt_Archive_events_i : isFn K (.ref F15) = true)
    (mt_Archive_with_event : findIn K (.ref C2) "with_event" = some (some (.ref F16)))
    (mt_Archive_with_event_i : isFn K (.ref F16) = true)
    (mt_Archive_text : findIn K (.ref C2) "text" = some (some (.ref F17)))
    (mt_Archive_text_i : isFn K (.ref F17) = true)
    (mt_Archive_chain : findIn K (.ref C2) "chain" = some (some (.ref F18)))
    (mt_Archive_chain_i : isFn K (.ref F18) = true)
    (mt_Archive_first_unlike : findIn K (.ref C2) "first_unlike" = some (some (.ref F19)))
    (mt_Archive_first_unlike_i : isFn K (.ref F19) = true)
    (g_read_text : nsIn K mainGlobals "read_text" = some (some (.ref F20)))
    (g_kept_lines : nsIn K mainGlobals "kept_lines" = some (some (.ref F21)))
    (g__law_taken : nsIn K mainGlobals "_law_taken" = some (some (.ref F22)))
    (g__law_pick : nsIn K mainGlobals "_law_pick" = some (some (.ref F23)))
    (g__law_alike : nsIn K mainGlobals "_law_alike" = some (some (.ref F24)))
    (g__law_name : nsIn K mainGlobals "_law_name" = some (some (.ref F25)))
    (g__law_shuffled : nsIn K mainGlobals "_law_shuffled" = some (some (.ref F26)))
    (g__law_feed : nsIn K mainGlobals "_law_feed" = some (some (.ref F27)))
    (g__law_part : nsIn K mainGlobals "_law_part" = some (some (.ref F28)))
    (g__law_word : nsIn K mainGlobals "_law_word" = some (some (.ref F29)))
    (g__law_figure : nsIn K mainGlobals "_law_figure" = some (some (.ref F30)))
    (g__law_refused : nsIn K mainGlobals "_law_refused" = some (some (.ref F31)))
    (g_law : nsIn K mainGlobals "law" = some (some (.ref F32)))
    (u_is_whole : Fun K "is_whole" "is_whole" s_is_whole F2 D2)
    (u_is_name : Fun K "is_name" "is_name" s_is_name F3 D3)
    (u_figure : Fun K "figure" "figure" s_figure F4 D4)
    (u_word_of : Fun K "word_of" "word_of" s_word_of F5 D5)
    (u_line_of : Fun K "line_of" "line_of" s_line_of F6 D6)
    (u_is_writable : Fun K "is_writable" "is_writable" s_is_writable F7 D7)
    (u_number_in : Fun K "number_in" "number_in" s_number_in F8 D8)
    (u_part_in : Fun K "part_in" "part_in" s_part_in F9 D9)
    (u_words_in : Fun K "words_in" "words_in" s_words_in F10 D10)
    (u_event_in : Fun K "event_in" "event_in" s_event_in F11 D11)
    (u_Archive___init__ : FunD K "__init__" "Archive.__init__" (defArgs s_Archive___init__) (defBody s_Archive___init__) (defScope s_Archive___init__) [.ref C9] [] F12 D12)
    (u_Archive___len__ : Fun K "__len__" "Archive.__len__" s_Archive___len__ F13 D13)
    (u_Archive___eq__ : Fun K "__eq__" "Archive.__eq__" s_Archive___eq__ F14 D14)
    (u_Archive_events : Fun K "events" "Archive.events" s_Archive_events F15 D15)
    (u_Archive_with_event : Fun K "with_event" "Archive.with_event" s_Archive_with_event F16 D16)
    (u_Archive_text : Fun K "text" "Archive.text" s_Archive_text F17 D17)
    (u_Archive_chain : Fun K "chain" "Archive.chain" s_Archive_chain F18 D18)
    (u_Archive_first_unlike : Fun K "first_unlike" "Archive.first_unlike" s_Archive_first_unlike F19 D19)
    (u_read_text : Fun K "read_text" "read_text" s_read_text F20 D20)
    (u_kept_lines : Fun K "kept_lines" "kept_lines" s_kept_lines F21 D21)
    (u__law_taken : Fun K "_law_taken" "_law_taken" s__law_taken F22 D22)
    (u__law_pick : Fun K "_law_pick" "_law_pick" s__law_pick F23 D23)
    (u__law_alike : Fun K "_law_alike" "_law_alike" s__law_alike F24 D24)
    (u__law_name : Fun K "_law_name" "_law_name" s__law_name F25 D25)
    (u__law_shuffled : Fun K "_law_shuffled" "_law_shuffled" s__law_shuffled F26 D26)
    (u__law_feed : Fun K "_law_feed" "_law_feed" s__law_feed F27 D27)
    (u__law_part : Fun K "_law_part" "_law_part" s__law_part F28 D28)
    (u__law_word : Fun K "_law_word" "_law_word" s__law_word F29 D29)
    (u__law_figure : Fun K "_law_figure" "_law_figure" s__law_figure F30 D30)
    (u__law_refused : Fun K "_law_refused" "_law_refused" s__law_refused F31 D31)
    (u_law : Fun K "law" "law" s_law F32 D32)
    (x_BadNote : PySem.W.exmOne K (.ref C0) (.ref C0) = some true)
    (x_TooMany : PySem.W.exmOne K (.ref C1) (.ref C1) = some true)
    (ty_Archive_ha : findIn K (.ref C2) "__class__" = some (some (.builtin "object.__class__")))
    (ty_Archive_hn : specialIn K (.builtin "object.__class__") "__get__" = some (some (.builtin "getset_descriptor.__get__")))
    (ty_Archive_ht : takesIn K (.builtin "object.__class__") = some true)
    (ty_Archive_hm : mroIn K C2 (.type "object") = some true)
    (ki_AA : PySem.W.kitOne K (.ref C2) (.ref C2) = some true)
    (ki_tA : PySem.W.kitOne K (.type "tuple") (.ref C2) = some false)
    (nf_AA : PySem.W.notFirst K C2 (.ref C2) = true)
    (nf_At : PySem.W.notFirst K C2 (.type "tuple") = true)
    (eq_Archive : EqC K C2 F14)
    (len_Archive : LenC K C2 F13)
    {ed_d : Option Addr} {ed_n : Nat} {ed_s : Array (Option Value)} (ed : K.lookup C9 = some ⟨.type "tuple", ed_d, .seq #[] ed_n, ed_s⟩)
    : ∃ fd : FuncData, (∀ (s : Shared) (v : Value), BindsTo s fd ⟨[v], []⟩ [("script", v)]) ∧ ∀ base : Heap, K.In base → base.Ns mainGlobals mg → FnG prog w K mg base CX0 63 fa fd ["script"] (sp_law K) := by
  have e := hfa.symm.trans (mg_of X G g_law)
  cases e
  have T : Txt prog K mg (fun n => ([F0, F1, F2, F3, F4, F5, F6, F7, F8, F9, F10, F11, F12, F13, F14, F15, F16, F17, F18, F19, F20, F21, F22, F23, F24, F25, F26, F27, F28, F29, F30, F31, fa] : List Addr).getD n 0) (fun n => ([D2, D2, D2, D3, D4, D5, D6, D7, D8, D9, D10, D11, D12, D13, D14, D15, D16, D17, D18, D19, D20, D21, D22, D23, D24, D25, D26, D27, D28, D29, D30, D31, D32] : List FuncData).getD n D2) (fun n => ([C0, C1, C2, C3, 0, 0, 0, 0, 0, C9] : List Addr).getD n 0) :=
    { z_isinstance := mg_none_of X G z_isinstance
      z_int := mg_none_of X G z_int
      z_bool := mg_none_of X G z_bool
      z_str := mg_none_of X G z_str
      z_list := mg_none_of X G z_list
      z_tuple := mg_none_of X G z_tuple
      z_len := mg_none_of X G z_len
      z_all := mg_none_of X G z_all
      z_enumerate := mg_none_of X G z_enumerate
      z_range := mg_none_of X G z_range
      z_max := mg_none_of X G z_max
      z_sorted := mg_none_of X G z_sorted
      z_repr := mg_none_of X G z_repr
      s_LETTERS := s_LETTERS.elim fun t h => ⟨t, mg_of X G h⟩
      s_FIGURES := s_FIGURES.elim fun t h => ⟨t, mg_of X G h⟩
      s_SIGNS := s_SIGNS.elim fun t h => ⟨t, mg_of X G h⟩
      s_LONGEST_NAME := s_LONGEST_NAME.elim fun t h => ⟨t, mg_of X G h⟩
      s_MOST_LINES := s_MOST_LINES.elim fun t h => ⟨t, mg_of X G h⟩
      u_is_whole := u_is_whole
      b_is_whole := u_is_whole.binds (ps := ["value"]) fun _ _ _ _ _ _ us hl => match us, hl with | [_], _ => rfl
      g_is_whole := mg_of X G g_is_whole
      u_is_name := u_is_name
      b_is_name := u_is_name.binds (ps := ["value"]) fun _ _ _ _ _ _ us hl => match us, hl with | [_], _ => rfl
      g_is_name := mg_of X G g_is_name
      u_figure := u_figure
      b_figure := u_figure.binds (ps := ["text"]) fun _ _ _ _ _ _ us hl => match us, hl with | [_], _ => rfl
      g_figure := mg_of X G g_figure
      u_word_of := u_word_of
      b_word_of := u_word_of.binds (ps := ["part"]) fun _ _ _ _ _ _ us hl => match us, hl with | [_], _ => rfl
      g_word_of := mg_of X G g_word_of
      u_line_of := u_line_of
      b_line_of := u_line_of.binds (ps := ["event"]) fun _ _ _ _ _ _ us hl => match us, hl with | [_], _ => rfl
      g_line_of := mg_of X G g_line_of
      u_is_writable := u_is_writable
      b_is_writable := u_is_writable.binds (ps := ["event"]) fun _ _ _ _ _ _ us hl => match us, hl with | [_], _ => rfl
      g_is_writable := mg_of X G g_is_writable
      u_number_in := u_number_in
      b_number_in := u_number_in.binds (ps := ["word"]) fun _ _ _ _ _ _ us hl => match us, hl with | [_], _ => rfl
      g_number_in := mg_of X G g_number_in
      u_part_in := u_part_in
      b_part_in := u_part_in.binds (ps := ["word"]) fun _ _ _ _ _ _ us hl => match us, hl with | [_], _ => rfl
      g_part_in := mg_of X G g_part_in
      u_words_in := u_words_in
      b_words_in := u_words_in.binds (ps := ["text"]) fun _ _ _ _ _ _ us hl => match us, hl with | [_], _ => rfl
      g_words_in := mg_of X G g_words_in
      u_event_in := u_event_in
      b_event_in := u_event_in.binds (ps := ["line"]) fun _ _ _ _ _ _ us hl => match us, hl with | [_], _ => rfl
      g_event_in := mg_of X G g_event_in
      u_Archive___init__ := u_Archive___init__
      b0_Archive___init__ := L2.bind_d u_Archive___init__ (fun _ _ _ _ _ _ _ us d hl => match us, hl with | [_], _ => ⟨_, rfl, rfl⟩)
      b_Archive___init__ := L2.bind_a u_Archive___init__ (fun _ _ _ _ _ _ _ us d hl => match us, hl with | [_, _], _ => ⟨_, rfl, rfl⟩)
      u_Archive___len__ := u_Archive___len__
      b_Archive___len__ := u_Archive___len__.binds (ps := ["self"]) fun _ _ _ _ _ _ us hl => match us, hl with | [_], _ => rfl
      mt_Archive___len__ := ⟨mt_Archive___len__, mt_Archive___len___i, u_Archive___len__.kp⟩
      u_Archive___eq__ := u_Archive___eq__
      b_Archive___eq__ := u_Archive___eq__.binds (ps := ["self", "other"]) fun _ _ _ _ _ _ us hl => match us, hl with | [_, _], _ => rfl
      mt_Archive___eq__ := ⟨mt_Archive___eq__, mt_Archive___eq___i, u_Archive___eq__.kp⟩
      u_Archive_events := u_Archive_events
      b_Archive_events := u_Archive_events.binds (ps := ["self"]) fun _ _ _ _ _ _ us hl => match us, hl with | [_], _ => rfl
      mt_Archive_events := ⟨mt_Archive_events, mt_Archive_events_i, u_Archive_events.kp⟩
      u_Archive_with_event := u_Archive_with_event
      b_Archive_with_event := u_Archive_with_event.binds (ps := ["self", "event"]) fun _ _ _ _ _ _ us hl => match us, hl with | [_, _], _ => rfl
      mt_Archive_with_event := ⟨mt_Archive_with_event, mt_Archive_with_event_i, u_Archive_with_event.kp⟩
      u_Archive_text := u_Archive_text
      b_Archive_text := u_Archive_text.binds (ps := ["self"]) fun _ _ _ _ _ _ us hl => match us, hl with | [_], _ => rfl
      mt_Archive_text := ⟨mt_Archive_text, mt_Archive_text_i, u_Archive_text.kp⟩
      u_Archive_chain := u_Archive_chain
      b_Archive_chain := u_Archive_chain.binds (ps := ["self"]) fun _ _ _ _ _ _ us hl => match us, hl with | [_], _ => rfl
      mt_Archive_chain := ⟨mt_Archive_chain, mt_Archive_chain_i, u_Archive_chain.kp⟩
      u_Archive_first_unlike := u_Archive_first_unlike
      b_Archive_first_unlike := u_Archive_first_unlike.binds (ps := ["self", "other"]) fun _ _ _ _ _ _ us hl => match us, hl with | [_, _], _ => rfl
      mt_Archive_first_unlike := ⟨mt_Archive_first_unlike, mt_Archive_first_unlike_i, u_Archive_first_unlike.kp⟩
      u_read_text := u_read_text
      b_read_text := u_read_text.binds (ps := ["text"]) fun _ _ _ _ _ _ us hl => match us, hl with | [_], _ => rfl
      g_read_text := mg_of X G g_read_text
      u_kept_lines := u_kept_lines
      b_kept_lines := u_kept_lines.binds (ps := ["events"]) fun _ _ _ _ _ _ us hl => match us, hl with | [_], _ => rfl
      g_kept_lines := mg_of X G g_kept_lines
      u__law_taken := u__law_taken
      b__law_taken := u__law_taken.binds (ps := ["row", "many"]) fun _ _ _ _ _ _ us hl => match us, hl with | [_, _], _ => rfl
      g__law_taken := mg_of X G g__law_taken
      u__law_pick := u__law_pick
      b__law_pick := u__law_pick.binds (ps := ["row", "kinds"]) fun _ _ _ _ _ _ us hl => match us, hl with | [_, _], _ => rfl
      g__law_pick := mg_of X G g__law_pick
      u__law_alike := u__law_alike
      b__law_alike := u__law_alike.binds (ps := ["found", "due"]) fun _ _ _ _ _ _ us hl => match us, hl with | [_, _], _ => rfl
      g__law_alike := mg_of X G g__law_alike
      u__law_name := u__law_name
      b__law_name := u__law_name.binds (ps := ["row"]) fun _ _ _ _ _ _ us hl => match us, hl with | [_], _ => rfl
      g__law_name := mg_of X G g__law_name
      u__law_shuffled := u__law_shuffled
      b__law_shuffled := u__law_shuffled.binds (ps := ["row", "things"]) fun _ _ _ _ _ _ us hl => match us, hl with | [_, _], _ => rfl
      g__law_shuffled := mg_of X G g__law_shuffled
      u__law_feed := u__law_feed
      b__law_feed := u__law_feed.binds (ps := []) fun _ _ _ _ _ _ us hl => match us, hl with | [], _ => rfl
      g__law_feed := mg_of X G g__law_feed
      u__law_part := u__law_part
      b__law_part := u__law_part.binds (ps := ["row", "depth"]) fun _ _ _ _ _ _ us hl => match us, hl with | [_, _], _ => rfl
      g__law_part := mg_of X G g__law_part
      u__law_word := u__law_word
      b__law_word := u__law_word.binds (ps := ["part"]) fun _ _ _ _ _ _ us hl => match us, hl with | [_], _ => rfl
      g__law_word := mg_of X G g__law_word
      u__law_figure := u__law_figure
      b__law_figure := u__law_figure.binds (ps := ["text"]) fun _ _ _ _ _ _ us hl => match us, hl with | [_], _ => rfl
      g__law_figure := mg_of X G g__law_figure
      u__law_refused := u__law_refused
      b__law_refused := u__law_refused.binds (ps := ["made"]) fun _ _ _ _ _ _ us hl => match us, hl with | [_], _ => rfl
      g__law_refused := mg_of X G g__law_refused
      u_law := u_law
      b_law := u_law.binds (ps := ["script"]) fun _ _ _ _ _ _ us hl => match us, hl with | [_], _ => rfl
      g_law := mg_of X G g_law
      c_BadNote := mg_of X G c_BadNote
      e_BadNote := e_BadNote
      c_TooMany := mg_of X G c_TooMany
      e_TooMany := e_TooMany
      c_Archive := mg_of X G c_Archive
      cl_Archive := cl_Archive
      m_Archive := m_Archive
      c_LadderError := mg_of X G c_LadderError
      n_Archive_lines := n_Archive_lines
      x_BadNote := x_BadNote
      x_TooMany := x_TooMany
      ty_Archive := ⟨cl_Archive, ty_Archive_ha, ty_Archive_hn, ty_Archive_ht, ty_Archive_hm⟩
      ki_AA := ki_AA
      ki_tA := ki_tA
      nf_AA := nf_AA
      nf_At := nf_At
      eq_Archive := eq_Archive
      len_Archive := len_Archive
      ed := ⟨_, _, ed, rfl, rfl⟩ }
  refine ⟨D32, fun s v => ?_, fun base _ _ => ok_law T⟩
  obtain ⟨oc, od, kV, doc, pm, an, cdv, ct, osl, rfl, lk, hcd⟩ := u_law.ex
  exact .of_eq rfl
end LW
set_option Elab.async false
set_option linter.all false
/-! k11: the end. Printed by fin.py. -/
open PySem PySem.W PyProof.Rows L2 LW in
set_option maxRecDepth 100000 in
set_option maxHeartbeats 0 in
theorem PySem.Challenge.cw_scanladder_k11_whole_archives_holds : PySem.Challenge.rw_scanladder_k11_whole_archives.Holds := by
  w_on; o_law; k_head; (case hw => w_witness2)
  k_fill
  refine L2.walk_ofG (l := PySem.Challenge.rw_scanladder_k11_whole_archives) (n := 63) (k := 63) (CX := CX0) (sp := sp_law) (x := "script") rfl (by decide) rfl ⟨rfl, by decide, by decide⟩ (fun w h Y => PySem.W.kIn_of Y) ?F (fun K H a ns _ _ hS => ⟨a, ns, rfl, hS, fun _ => rfl⟩) (fun _ _ _ _ z => z)
  case F =>
    intro w mg fa h KX G hmg
    refine law_mk (prog := PySem.Challenge.rw_scanladder_k11_whole_archives.prog) KX G hmg
      (by k_is)
      (by k_is)
      (by k_is)
      (by k_is)
      (by k_is)
      (by k_is)
      (by k_is)
      (by k_is)
      (by k_is)
      (by k_is)
      (by k_is)
      (by k_is)
      (by k_is)
      ⟨_, by k_is⟩
      ⟨_, by k_is⟩
      ⟨_, by k_is⟩
      ⟨_, by k_is⟩
      ⟨_, by k_is⟩
      (by k_is)
      (by k_is)
      (by k_is)
      ⟨by k_is, by k_is, by k_is, by k_is⟩
      ⟨by k_is, by k_is, by k_is, by k_is⟩
      (by k_is)
      (by k_is)
      (PySem.LadX.err_mk KX G PySem.LadX.nice_line (by k_is) (by k_is) (by k_is) (by ks_is) (by k_is) (by k_is) (by k_is) (by k_is) (by k_is) (by k_is) (by k_is) (by k_is) (by k_is) (by k_is) (by k_is) (by k_is) (by k_is) (by k_is) (by k_is) (by k_is) (by k_is) (by decide +kernel) (by decide +kernel) rfl (by decide +kernel) (by decide +kernel))
      (PySem.LadX.err_mk KX G PySem.LadX.nice_limit (by k_is) (by k_is) (by k_is) (by ks_is) (by k_is) (by k_is) (by k_is) (by k_is) (by k_is) (by k_is) (by k_is) (by k_is) (by k_is) (by k_is) (by k_is) (by k_is) (by k_is) (by k_is) (by k_is) (by k_is) (by k_is) (by decide +kernel) (by decide +kernel) rfl (by decide +kernel) (by decide +kernel))
      (by k_is)
      (by k_is)
      (by k_is)
      (by k_is)
      (by k_is)
      (by k_is)
      (by k_is)
      (by k_is)
      (by k_is)
      (by k_is)
      (by k_is)
      (by k_is)
      (by k_is)
      (by k_is)
      (by k_is)
      (by k_is)
      (by k_is)
      (by k_is)
      (by k_is)
      (by k_is)
      (by k_is)
      (by k_is)
      (by k_is)
      (by k_is)
      (by k_is)
      (by k_is)
      (by k_is)
      (by k_is)
      (by k_is)
      (by k_is)
      (by k_is)
      (by k_is)
      (by k_is)
      (by k_is)
      (by k_is)
      (by k_is)
      (by k_is)
      (fun_mk (by k_is) (by k_is) (by k_is))
      (fun_mk (by k_is) (by k_is) (by k_is))
      (fun_mk (by k_is) (by k_is) (by k_is))
      (fun_mk (by k_is) (by k_is) (by k_is))
      (fun_mk (by k_is) (by k_is) (by k_is))
      (fun_mk (by k_is) (by k_is) (by k_is))
      (fun_mk (by k_is) (by k_is) (by k_is))
      (fun_mk (by k_is) (by k_is) (by k_is))
      (fun_mk (by k_is) (by k_is) (by k_is))
      (fun_mk (by k_is) (by k_is) (by k_is))
      (L2.funD_mk1 (by k_is) (by k_is) (by k_is) (by k_is))
      (fun_mk (by k_is) (by k_is) (by k_is))
      (fun_mk (by k_is) (by k_is) (by k_is))
      (fun_mk (by k_is) (by k_is) (by k_is))
      (fun_mk (by k_is) (by k_is) (by k_is))
      (fun_mk (by k_is) (by k_is) (by k_is))
      (fun_mk (by k_is) (by k_is) (by k_is))
      (fun_mk (by k_is) (by k_is) (by k_is))
      (fun_mk (by k_is) (by k_is) (by k_is))
      (fun_mk (by k_is) (by k_is) (by k_is))
      (fun_mk (by k_is) (by k_is) (by k_is))
      (fun_mk (by k_is) (by k_is) (by k_is))
      (fun_mk (by k_is) (by k_is) (by k_is))
      (fun_mk (by k_is) (by k_is) (by k_is))
      (fun_mk (by k_is) (by k_is) (by k_is))
      (fun_mk (by k_is) (by k_is) (by k_is))
      (fun_mk (by k_is) (by k_is) (by k_is))
      (fun_mk (by k_is) (by k_is) (by k_is))
      (fun_mk (by k_is) (by k_is) (by k_is))
      (fun_mk (by k_is) (by k_is) (by k_is))
      (fun_mk (by k_is) (by k_is) (by k_is))
      (by kernel_rfl)
      (by kernel_rfl)
      (by k_is)
      (by k_is)
      (by k_is)
      (by k_is)
      (by kernel_rfl)
      (by kernel_rfl)
      (by kernel_rfl)
      (by kernel_rfl)
      ⟨by k_is, by k_is, by k_is, by k_is⟩
      ⟨by k_is, by k_is⟩
      (by k_is)
