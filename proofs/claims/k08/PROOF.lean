import PyProof.Rows.All
import Wide.All
import OpenK.AllK
import Wide.FinOn
import KE.KStateDown
import KE.KExcInit
import HandS.ForMost
import HandS.Exc
import HandS.ExcIs
import HandS.Head2
import HandS.HeadEnd
import HandS.HeadHook2
import KE.KExcPX
import KE.KSuper
import PySem.Challenge.RW_flatdrawn_k08_errors_apart
import KE.KExcSuper
import KE.KFromBytes
import HandS.Base
import HandS.Call
import KE.KExcIs
import HandS.ExcOwn
import HandS.ExcValue
import HandS.IsInst
import HandS.ExcBuiltin
import HandS.Words
import HandS.Evl
import PyProof.ReprRoads
import HandS.Walk
import Lean
import HandS.Ends
import HandS.More
import HandS.WordsExc
import HandS.Defaults
import HandS.Head0
import HandS.Head1
import HandS.HeadHook1
set_option Elab.async false
set_option linter.all false
set_option maxRecDepth 100000
set_option maxHeartbeats 0
namespace My
open PySem PySem.Spec PyProof.Rows L2 He
def topS (i : Nat) : Stmt := PySem.Challenge.pw_flatdrawn_k08_errors_apart.main.body.getD i (.Pass ⟨0, 0, 0, 0⟩)
def plainN0 : List Str := ["DrawError", "BadCare", "BadChart", "BadCircle", "BadCircles", "BadColours", "BadCorner", "BadDart", "BadDirections", "BadDrawing", "BadEnds", "BadFace", "BadHeights", "BadKind", "BadLead", "BadLot", "BadMany", "BadMore", "BadMove", "BadNames", "BadNet", "BadOrder", "BadOuts", "BadPart", "BadPlaces", "BadPoint", "BadPolygon", "BadPulls", "BadRing", "BadRound"]
def plainN1 : List Str := ["BadRow", "BadShape", "BadStop", "BadStress", "BadTie", "BadTies", "BadWay", "BadWeights", "BadWheel", "BadWood", "NotBalanced", "NotBeside", "NotFlat", "NotFull", "NotJoined", "NotOneFace", "NotOutside", "NotOutward", "NotParting", "NotReal", "NotRoof", "NotTaut", "NotUpright", "NothingDone", "NothingUndone", "OtherNet", "TooFew"]
def plainN : List Str := plainN0 ++ plainN1
def kindN0 : List Str := ["BadCare", "BadChart", "BadCircle", "BadCircles", "BadColours", "BadCorner", "BadDart", "BadDirections", "BadDrawing", "BadEnds", "BadFace", "BadHeights", "BadJournal", "BadKind", "BadLead", "BadLot", "BadMany", "BadMore", "BadMove", "BadNames", "BadNet", "BadOrder", "BadOuts", "BadPart", "BadPlaces", "BadPoint", "BadPolygon", "BadPulls", "BadRing", "BadRound"]
def kindN1 : List Str := ["BadRow", "BadShape", "BadStop", "BadStress", "BadText", "BadTie", "BadTies", "BadWay", "BadWeights", "BadWheel", "BadWood", "NotBalanced", "NotBeside", "NotDrawn", "NotFlat", "NotFull", "NotJoined", "NotOneFace", "NotOutside", "NotOutward", "NotParting", "NotReal", "NotRoof", "NotTaut", "NotUpright", "NothingDone", "NothingUndone", "OtherNet", "TooFew", "TooMany"]
def kindN : List Str := kindN0 ++ kindN1
def initN : List Str := ["BadJournal", "BadText", "NotDrawn", "TooMany"]
def d_law_begun : DefD := ⟨("_law_begun", none), "_law_begun", "_law_begun", defArgs (topS 63), defBody (topS 63), defScope (topS 63), [], []⟩
def d_law_blended : DefD := ⟨("_law_blended", none), "_law_blended", "_law_blended", defArgs (topS 64), defBody (topS 64), defScope (topS 64), [], []⟩
def d_law_draw : DefD := ⟨("_law_draw", none), "_law_draw", "_law_draw", defArgs (topS 65), defBody (topS 65), defScope (topS 65), [], []⟩
def d_law_pick : DefD := ⟨("_law_pick", none), "_law_pick", "_law_pick", defArgs (topS 66), defBody (topS 66), defScope (topS 66), [], []⟩
def d_law_k08_flags : DefD := ⟨("_law_k08_flags", none), "_law_k08_flags", "_law_k08_flags", defArgs (topS 67), defBody (topS 67), defScope (topS 67), [], []⟩
def d_law : DefD := ⟨("law", none), "law", "law", defArgs (topS 68), defBody (topS 68), defScope (topS 68), [], []⟩
def fnD : List DefD := [d_law_begun, d_law_blended, d_law_draw, d_law_pick, d_law_k08_flags, d_law]
def faF : List Fa := [.glo "_law_begun", .glo "_law_blended", .glo "_law_draw", .glo "_law_pick", .glo "_law_k08_flags", .glo "law", .free "abs", .free "int", .free "len", .free "range", .free "min", .free "isinstance", .free "enumerate", .free "repr", .free "ValueError", .free "super"]
def faL : List Fa := faF ++ plainN.map Fa.exc ++ (("DrawError" : Str) :: kindN).map Fa.glo
/-- what isinstance asks of the class x, whose mro is its own, then more -/
def clsE (K : PySem.W.Frag) (more : List Value) (x : Str) : Bool :=
  eqO (PySem.W.findIn K (.ref (ga K x)) "__getattribute__") (some (some (.builtin "BaseException.__getattribute__"))) &&
  (eqO (PySem.W.findIn K (.ref (ga K x)) "__getattr__") (some none) &&
  (eqO (PySem.W.findIn K (.ref (ga K x)) "__class__") (some (some (.builtin "object.__class__"))) &&
  (PySem.W.hasDictIn K (ga K x) && (PySem.W.keepIn K (.ref (ga K x)) && (decide (PySem.W.typeIn K (.ref (ga K x)) = some (.type "type")) &&
  decide ((PySem.W.clsIn K (ga K x)).map (·.mro) = some (.ref (ga K x) :: more)))))))
/-- the class at C: its own name first, then classes, then ValueError's line -/
def clsX (K : PySem.W.Frag) (C : Addr) : Bool := match K.lookup C with
  | some ⟨.type c, _, .cls cd, sl⟩ => decide (c = "type") && (match cd.mro, sl.toList with
    | .ref C' :: bm, [_, _, _, _, some (.builtin n), _] => decide (C' = C) && (decide (n = "ValueError.__new__") && ((!cd.hasDel) && (cd.hasDict && PySem.HandSPX.refsVE bm)))
    | _, _ => false)
  | _ => false
/-- its __init__: the code object names the text's file, the one cell holds the class -/
def iniX (K : PySem.W.Frag) (x : Str) : Bool := match K.lookup (ma K (ga K x) "__init__") with
  | some ⟨_, _, .func fd, _⟩ => decide (fd.defaults = .none) && (PySem.W.codeIn K fd.code fd.qualname && ((match fd.code with
      | .ref c => (match K.lookup c with
        | some ⟨_, _, .fields vs, _⟩ => (match vs.toList with
          | _ :: _ :: .str z _ :: _ => decide (z = "/claim/cut.py")
          | _ => false)
        | _ => false)
      | _ => false) && (match fd.closure with
      | [(_, c)] => (match K.lookup c with
        | some ⟨_, _, .cell (some (.ref C)), _⟩ => decide (C = ga K x)
        | _ => false)
      | _ => false)))
  | _ => false
/-- what the making of the class x asks, that has an __init__ of its own that stores f -/
def initE (K : PySem.W.Frag) (x f : Str) : Bool :=
  eqO (PySem.W.findIn K (.ref (ga K x)) "__setattr__") (some (some (.builtin "object.__setattr__"))) &&
  (eqO (PySem.W.findIn K (.ref (ga K x)) f) (some none) &&
  (eqO (PySem.W.findIn K (.ref (ga K x)) "__init__") (some (some (.ref (ma K (ga K x) "__init__")))) &&
  (PySem.W.isFn K (.ref (ma K (ga K x) "__init__")) &&
  (eqO (PySem.W.ks_superIn K (ga K x) (ga K x) "__init__") (some (some (.builtin "ValueError.__init__"))) && (clsX K (ga K x) && iniX K x)))))
def frList : List Nat → (List Nat → Bool) → Bool
  | [], k => k []
  | a :: r, k => HandSHeadRun.frNat a fun a => frList r fun r => k (a :: r)
def ex8 (K : PySem.W.Frag) : Bool :=
  eqO (PySem.W.nsIn K cStatics "thirdparty.any") (some none) && (eqO (PySem.W.specialIn K (.builtin "object.__class__") "__get__") (some (some (.builtin "getset_descriptor.__get__"))) &&
  (decide (PySem.W.takesIn K (.builtin "object.__class__") = some true) && (clsE K veBase "DrawError" && (kindN.all (clsE K (.ref (ga K "DrawError") :: veBase)) &&
  (initE K "BadJournal" "at" && (initE K "BadText" "line" && (initE K "NotDrawn" "fault" && (initE K "TooMany" "most" &&
  frList ((("DrawError" : Str) :: kindN).map (ga K)) fun l => decide l.Nodup))))))))
abbrev FnI : Type := Option (Str × Str × Arguments × FuncBody × Scope × Addr × List Str × Addr)
def fnI (K : PySem.W.Frag) (x : Str) : FnI := match K.lookup (ma K (ga K x) "__init__") with
  | some ⟨_, _, .func fd, _⟩ => some (fd.name, fd.qualname, fd.params, fd.body, fd.scope, fd.globals, fd.closure.map (·.1), fd.builtins)
  | _ => none
def initS (i : Nat) : Stmt := inClass (topS i) 0
def valI (x : Str) (i : Nat) : FnI := some ("__init__", x ++ ".__init__", defArgs (initS i), .stmts (defBody (initS i)), defScope (initS i), mainGlobals, ["__class__"], builtinsNs)
abbrev AlM : Type := AlD × Bool × List FnI
def valsI : List FnI := [valI "BadJournal" 14, valI "BadText" 36, valI "NotDrawn" 45, valI "TooMany" 61]
def obsM (K : PySem.W.Frag) : AlM := (obsD faL fnD K, ex8 K, initN.map fun x => fnI K x)
def valM : AlM := (valD fnD, true, valsI)
def hk : PySem.W.Hook where
  α := AlM
  obs := fun s => obsM (frG s.heap.get? (cStatics :: asD s.heap.get? 5))
  val := fun _ => valM
  says := fun _ h => ∃ K : PySem.W.Frag, K.In h ∧ obsM K = valM
  of := fun _ _ e => ⟨_, frG_in, e⟩
  keeps := fun _ _ _ ⟨K, hK, c⟩ k => ⟨K, PySem.W.Frag.In.keeps hK k, c⟩
def ob (s : PySem.W.SharedT) : AlM := obsM (frG (HandSHeadRun.getT s) (cStatics :: asD (HandSHeadRun.getT s) 5))
theorem ob_eq (s : PySem.W.SharedT) : ob s = hk.obs s.abs := by
  have e : HandSHeadRun.getT s = s.abs.heap.get? := funext fun a => HandSHeadRun.getT_eq s a
  unfold ob
  rw [e] <;> rfl
abbrev R : PySem.W.OpenRow := PySem.W.OpenLaw.row PySem.Challenge.rw_flatdrawn_k08_errors_apart
def looseN0 : List Str := ["DrawError", "BadCare", "BadChart", "BadCircle", "BadCircles", "BadColours", "BadCorner", "BadDart", "BadDirections", "BadDrawing", "BadEnds", "BadFace", "BadHeights", "BadJournal", "BadKind", "BadLead", "BadLot", "BadMany", "BadMore", "BadMove", "BadNames", "BadNet", "BadOrder", "BadOuts", "BadPart", "BadPlaces", "BadPoint", "BadPolygon", "BadPulls", "BadRing"]
def looseN1 : List Str := ["BadRound", "BadRow", "BadShape", "BadStop", "BadStress", "BadText", "BadTie", "BadTies", "BadWay", "BadWeights", "BadWheel", "BadWood", "NotBalanced", "NotBeside", "NotDrawn", "NotFlat", "NotFull", "NotJoined", "NotOneFace", "NotOutside", "NotOutward", "NotParting", "NotReal", "NotRoof", "NotTaut", "NotUpright", "NothingDone", "NothingUndone", "OtherNet", "TooFew"]
def looseN2 : List Str := ["TooMany", "_law_begun", "_law_blended", "_law_draw", "_law_pick", "_law_k08_flags"]
def looseN : List Str := looseN0 ++ looseN1 ++ looseN2
theorem run (w : World) : HandSHeadRun.RunEq R (PySem.W.view R.prog [68]) hk ob 13800 looseN w := by
  intro os
  kernel_rfl
end My
namespace My
open PySem PySem.W PySem.Calls PyProof.Rows PySem.HandSPX
/-! ### an __init__ that says super().__init__(text) and stores its one argument -/
def iniA (f : Str) (p1 p2 : Pos) : Arguments := { posonlyargs := [], args := [{ arg := "self", annotation := none, pos := p1 }, { arg := f, annotation := none, pos := p2 }], vararg := none, kwonlyargs := [], kw_defaults := [], kwarg := none, defaults := [] }
def iniB (f text : Str) (p0 p1 p2 p3 p4 p5 q1 q2 q3 q4 : Pos) (k : Nat) : List Stmt :=
  [.Expr (.Call (.Attribute (.Call (.Name "super" p0) [] [] p1) "__init__" p2) [.Constant (.str text) k p3] [] p4) p5, .Assign [.Attribute (.Name "self" q1) f q2] (.Name f q3) q4]
def iniS (f : Str) : Scope := { kind := .function, names := [("self", .local), (f, .local), ("__class__", .free), ("super", .globalImplicit)], isGenerator := false, isCoroutine := false, more := [] }
structure IniAt (K : Frag) (C fI : Addr) (f text file : Str) : Prop where
  sa : findIn K (.ref C) "__setattr__" = some (some (.builtin "object.__setattr__"))
  no : findIn K (.ref C) f = some none
  ini : findIn K (.ref C) "__init__" = some (some (.ref fI))
  tI : typeIn K (.ref fI) = some (.type "function")
  kC : keepIn K (.ref C) = true
  cls : ∃ nm q N bs bm sn sub ab col dd k0 k1 k2 k3 k5, K.lookup C = some (excClassObj nm q C N bs bm true sn sub ab col dd k0 k1 k2 k3 k5 "ValueError.__new__") ∧ refsVE bm = true
  sup : ks_superIn K C C "__init__" = some (some (.builtin "ValueError.__init__"))
  opq : nsIn K cStatics "thirdparty.any" = some none
  fn : ∃ (oc kV doc pm ct ccl cl : Value) (od an cdd cld : Option Addr) (osl ccs csl : Array (Option Value)) (qual : Str) (cda cc : Addr) (vs : Array Value) (tf : Tok) (a1 a2 p0 p1 p2 p3 p4 p5 q1 q2 q3 q4 : Pos) (k : Nat),
    K.lookup fI = some ⟨oc, od, .func (fnX "__init__" qual (iniA f a1 a2) (iniB f text p0 p1 p2 p3 p4 p5 q1 q2 q3 q4 k) (iniS f) [("__class__", cc)] .none kV doc pm an (.ref cda) ct), osl⟩ ∧ codeIn K (.ref cda) qual = true ∧
    K.lookup cda = some ⟨ccl, cdd, .fields vs, ccs⟩ ∧ vs[2]? = some (.str file tf) ∧ K.lookup cc = some ⟨cl, cld, .cell (some (.ref C)), csl⟩ ∧ (p2.endLine == p4.line) = true
/-- what __init__ leaves of a fresh exception at x -/
structure IniEnd (h h' : Heap) (x C dx t1 : Addr) (f : Str) (v : Value) : Prop where
  keep : ∀ b o, b ≠ x → h.get? b = some o → h'.get? b = some o
  obj : h'.get? x = some { cls := .ref C, dict := some dx, data := .fields #[.ref t1, .none, .none, .none, .bool false, .none] }
  dbig : h.objs.size ≤ dx
  dne : dx ≠ x
  ns : h'.Ns1 dx (fun y => if y = f then some v else none)
def plainQ (o : Expr) (env : Env) : Sem Bool := do return (← importBound o env).getD true
/-- a method call that stands on one line -/
theorem meth_line {o : Expr} {m : Str} {apos pos : Pos} {env : Env} {e : Expr} (hs : starEach [e] env = (false, eval e env) :: starEach [] env) (hl : (apos.endLine == pos.line) = true) :
    eval (.Call (.Attribute o m apos) [e] [] pos) env = (do
      let ov ← attributeBase o m env (eval o env)
      standAt apos.atName
      let (f, first) ← holding [ov] (getMethod ov m (plainQ o env))
      callWith pos f first (backTo pos (starEach [e] env)) []) := by
  have e2 : methodCallPos true o env apos pos = pure pos := by
    unfold methodCallPos
    exact if_pos (by rw [hl, Bool.or_true])
  have e1 : ∀ ov : Value, methodCall o m apos pos env ov 1 (backTo pos (starEach [e] env)) [] = (do
      let (f, first) ← holding [ov] (getMethod ov m (plainQ o env))
      callWith pos f first (backTo pos (starEach [e] env)) []) := fun ov => by
    have hf : methodCallForm 1 (backTo pos (starEach [e] env)) [] = true := by rw [hs]; rfl
    unfold methodCall
    rw [hf, e2]
    first
      | rfl
      | (simp only [pure_bind]; rfl)
  show (do
      let ov ← attributeBase o m env (eval o env)
      standAt apos.atName
      methodCall o m apos pos env ov 1 (backTo pos (starEach [e] env)) []) = _
  simp only [e1]
section
variable {prog : Program} {w : World} {A : Around} {E : Value → Shared → Prop} {R : Result → Shared → Prop} {s : Shared} {K : Frag} {mg mb : Str → Option Value} {C fI : Addr} {f text file : Str}
/-- the bound built-in __init__ called: the args are laid anew -/
theorem mw_call {h : Heap} {g : Array GenState} {d : Drawn} {t : Nat} {os : OsState} {B i newId : String} {bmB : List Value} {nm q : Str} {N x u t0 : Addr} {bs bm : List Value} {hdct : Bool} {sn : List Str} {sub : List Value} {ab : Bool} {col : Option Bool} {dd : Option Addr} {k0 k1 k2 k3 k5 : Option Value}
    {rest : List Value} {Q : Value → Shared → Prop} (FB : ExcBaseFacts B newId i bmB) (hC : h.get? C = some (excClassObj nm q C N bs bm hdct sn sub ab col dd k0 k1 k2 k3 k5 newId)) (hu : h.get? u = some (kxs_mw i x)) (he : h.get? x = some (excO C t0)) (hz : rest.length ≤ sizeLine)
    (hq : ∀ h' t1, (∀ b o, b ≠ x → h.get? b = some o → h'.get? b = some o) → h'.get? x = some (excO C t1) → Q .none ⟨h', g, d, t, os⟩) : wpAny (model prog w) A (call (.ref u) rest) Q E ⟨h, g, d, t, os⟩ := by
  refine wpAny_call (codeAny_of_tree ?_)
  show wpAny _ A.in1 (callAny (.ref u) ⟨rest, []⟩) _ _ _
  simp only [callAny]
  refine wpAny_bind (wpAny_load hu ?_)
  simp only [kxs_mw, show (Value.type "method-wrapper" == Value.type "method" || Value.type "method-wrapper" == Value.type "builtin_function_or_method" || Value.type "method-wrapper" == Value.type "method-wrapper") = true by decide, if_true]
  refine KFB.if_so (by decide) ?_
  refine wpAny_bind (check_bound_init FB.toExcCallFacts hC he rfl ?_)
  refine wpAny_bind (wpAny_pure (wpAny_pure ?_))
  refine ⟨plainId_quiet FB.init.plain _, codeAny_builtin FB.initEntry ?_⟩
  exact exc_init_tree (cls := .ref C) (t0 := t0) (dv := none) (c2 := .none) (c3 := .none) (b4 := .bool false) he hz fun h' k e' _ => hq h' _ k e'
theorem ini_run (T : IniAt K C fI f text file) (X : K.In s.heap) (G : s.heap.Ns mainGlobals mg) (Bn : s.heap.Ns builtinsNs mb) (hmb : ∀ x : Str, x ≠ "__name__" → mb x = bootBuiltins x) (hlim : s.heap.NoLimit) (hsup : mg "super" = none)
    (hfile : ((prog.main.file : Str) == file) = true) (htop : (prog.main.scope.names.lookup ("super" : Str)).isSome = false) (hfs : ¬ f = "self") (hfc : ¬ f = "__class__") (hfu : ¬ f = "super") (hfd : (f == ("__debug__" : Str)) = false)
    {x t0 : Addr} {v : Value} {args : Args} (hbind : ∀ (a1 a2 : Pos) (fd : FuncData), fd.params = iniA f a1 a2 → fd.defaults = .none → BindsTo s fd args [(("self" : Str), .ref x), (f, v)])
    (hx : s.heap.get? x = some (excO C t0)) (hnx : K.lookup x = none) (hroom : A.depth < recursionLimit)
    (hq : ∀ h' tk dx t1, IniEnd s.heap h' x C dx t1 f v → R (.ok (.ret .none)) { s with heap := h', toks := tk }) :
    codeAny (model prog w) A (.call (.ref fI) args) R s := by
  obtain ⟨oc, kV, doc, pm, ct, ccl, cl, od, an, cdd, cld, osl, ccs, csl, qual, cda, cc, vs, tf, a1, a2, p0, p1, p2, p3, p4, p5, q1, q2, q3, q4, k, ho, hcd, hcode, hvs, hcell, hline⟩ := T.fn
  obtain ⟨nm, q, N, bs, bm, sn, sub, ab, col, dd, k0, k1, k2, k3, k5, hC, hbm⟩ := T.cls
  have hcl : clsIn K C = some { name := nm, bases := bs, mro := .ref C :: bm, ns := N, qualname := q, hasDict := true, slotNames := sn, subclasses := sub, abstract := ab, collection := col, hasDel := false } := by unfold clsIn; rw [hC] <;> rfl
  have l1 : (iniS f).names.lookup ("self" : Str) = some NameKind.local := rfl
  have l2 : (iniS f).names.lookup f = some NameKind.local := by
    have e : (f == ("self" : Str)) = false := by simpa using hfs
    show List.lookup f [(("self" : Str), NameKind.local), (f, .local), (("__class__" : Str), .free), (("super" : Str), .globalImplicit)] = _
    simp [List.lookup, e]
  have e3 : (("__class__" : Str) == f) = false := by
    rw [beq_eq_false_iff_ne]
    exact fun z => hfc z.symm
  have e4 : (("super" : Str) == f) = false := by
    rw [beq_eq_false_iff_ne]
    exact fun z => hfu z.symm
  have l3 : (iniS f).names.lookup ("__class__" : Str) = some NameKind.free := by
    show List.lookup ("__class__" : Str) [(("self" : Str), NameKind.local), (f, .local), (("__class__" : Str), .free), (("super" : Str), .globalImplicit)] = _
    have e0 : (("__class__" : Str) == ("self" : Str)) = false := by decide +kernel
    simp [List.lookup, e0, e3]
  have l4 : (iniS f).names.lookup ("super" : Str) = some NameKind.globalImplicit := by
    show List.lookup ("super" : Str) [(("self" : Str), NameKind.local), (f, .local), (("__class__" : Str), .free), (("super" : Str), .globalImplicit)] = _
    have e0 : (("super" : Str) == ("self" : Str)) = false := by decide +kernel
    have e1 : (("super" : Str) == ("__class__" : Str)) = false := by decide +kernel
    simp [List.lookup, e0, e1, e4]
  refine ks_codeAny_call_defAt (fd := fnX "__init__" qual (iniA f a1 a2) (iniB f text p0 p1 p2 p3 p4 p5 q1 q2 q3 q4 k) (iniS f) [("__class__", cc)] .none kV doc pm an (.ref cda) ct) (binds := [(("self" : Str), .ref x), (f, v)]) hroom (X _ _ ho) rfl hlim (codeRec_of X hcd) rfl (hbind a1 a2 _ rfl rfl) ?hcell ?hloc (fun h₁ hns hk => ?_)
  case hcell =>
    intro y hy
    have hy : y ∈ [(("self" : Str), NameKind.local), (f, .local), (("__class__" : Str), .free), (("super" : Str), .globalImplicit)] := hy
    simp only [List.mem_cons, List.not_mem_nil, or_false] at hy
    rcases hy with rfl | rfl | rfl | rfl <;> (intro z; cases z)
  case hloc =>
    intro y hy
    simp only [List.mem_cons, List.not_mem_nil, or_false] at hy
    rcases hy with rfl | rfl
    · exact l1
    · exact l2
  have X₁ : K.In h₁ := X.keeps hk
  have hx₁ := hk _ _ hx
  have hm1 : List.lookup ("self" : Str) [(f, v), (("self" : Str), .ref x)] = some (.ref x) := by
    have e : (("self" : Str) == f) = false := by
      rw [beq_eq_false_iff_ne]
      exact fun z => hfs z.symm
    simp [List.lookup, e]
  have hm2 : List.lookup f [(f, v), (("self" : Str), .ref x)] = some v := by simp [List.lookup]
  have hBm : ∀ Y : String, veTail.contains (.type Y) = true → subIn K (.ref C) (.type Y) = some true := fun Y hY => by
    show mroIn K C (.type Y) = some true
    unfold mroIn
    rw [hcl, Option.bind_some, if_neg (show ¬ (List.isEmpty (Value.ref C :: bm) = true) from Bool.false_ne_true), List.contains_cons, refsVE_contains Y bm hbm, hY, Bool.or_true]
  have hsubC : mroIn K C (.ref C) = some true := by
    unfold mroIn
    rw [hcl, Option.bind_some, if_neg (show ¬ (List.isEmpty (Value.ref C :: bm) = true) from Bool.false_ne_true)]
    simp
  refine ks_wpAt_execs_cons (ks_wpAt_Expr_any (ks_wpAt_MethodCall (pl := plainQ _ _) (ks_wpAt_super_base (env := ksEnv qual (iniS f) s.heap.objs.size fI (.ref cda) cc) l4 l3 (by decide +kernel) rfl (X₁ _ _ ho) rfl rfl rfl (X₁ _ _ hcode) rfl hvs hfile htop ?_) (meth_line rfl hline)))
  refine ks_loadName_global rfl l4 (loadGlobal_builtin (env := ksEnv qual (iniS f) s.heap.objs.size fI (.ref cda) cc) (G.keeps hk) hsup (Bn.keeps hk) ((hmb _ (by decide +kernel)).trans (by decide +kernel)) ⟨rfl, ?_⟩)
  refine wpAny_loadName_free rfl l3 rfl ⟨_, X₁ _ _ hcell, rfl⟩ ?_
  refine wpAny_loadName_local rfl l1 hns hm1 ?_
  refine ks_wpAny_isType_cls (X₁ _ _ hC) rfl ⟨rfl, ?_⟩
  refine ks_wpAny_call_super (X₁ _ _ hC) rfl hx₁ rfl (fun c e => by cases e) (looks_mroIn X₁ hsubC) (fun h₂ e₂ k₂ => ?_)
  have X₂ : K.In h₂ := X₁.keeps k₂
  have hx₂ := k₂ _ _ hx₁
  have I₂ : InstAt h₂ x (excO C t0) C none := ⟨hx₂, rfl, rfl, trivial⟩
  have hsup2 := T.sup
  unfold ks_superIn at hsup2
  rw [hcl, Option.bind_some] at hsup2
  refine kxs_getMethod kxs_ValueError e₂ (looks_opaque X₂ T.opq) (l₀ := .ref C :: bm) (fun A Q E s k q => wpAny_bind ((looks_clsIn X₂ hcl) A _ E s k (wpAny_pure q))) rfl X₂ hsup2 (I₂.type.andThen (looks_subIn X₂ (hBm "ValueError" (by decide +kernel)))) (ks_ne X₂ I₂ hcl) (by decide +kernel) ?_
  have k₃ : ∀ b o, h₂.get? b = some o → (h₂.push (kxs_mw "ValueError.__init__" x)).get? b = some o := fun b o e => Heap.get?_push_of_some _ e
  have hu₃ : (h₂.push (kxs_mw "ValueError.__init__" x)).get? h₂.objs.size = some (kxs_mw "ValueError.__init__" x) := Heap.get?_push_at rfl rfl
  have X₃ : K.In (h₂.push (kxs_mw "ValueError.__init__" x)) := X₂.keeps k₃
  have hx₃ := k₃ _ _ hx₂
  refine kxs_callWith (i := "ValueError.__init__") (x := x) rfl (evalArgs_plain (Calls.spliced_cons ?_))
  refine Calls.Constant_str (pos := p3) (k := k) (Calls.spliced_nil ⟨hu₃, ?_⟩)
  refine mw_call F.excBase_ValueError (X₃ _ _ hC) hu₃ hx₃ (by show 1 ≤ sizeLine; rw [sizeLine_eq]; omega) (fun h₄ t1 k₄ e₄ => ?_)
  have kept : ∀ b o, b ≠ x → s.heap.get? b = some o → h₄.get? b = some o := fun b o hb e => k₄ b o hb (k₃ b o (k₂ b o (hk b o e)))
  have X₄ : K.In h₄ := fun b o e => kept b o (fun z => by rw [z, hnx] at e; cases e) (X b o e)
  have hns₄ : h₄.Ns s.heap.objs.size (fun y => [(("self" : Str), Value.ref x), (f, v)].reverse.lookup y) := by
    obtain ⟨oL, es, ep, hL, r⟩ := hns
    exact ⟨oL, es, ep, k₄ _ _ (Nat.ne_of_gt (Heap.lt_size hx)) (k₃ _ _ (k₂ _ _ hL)), r⟩
  -- self.f = f
  refine ks_wpAt_execs_cons (wpAt_of_wpAny (plainObj_wpAny_Assign_Attribute ?_))
  refine wpAny_Name (wpAny_loadName_local rfl l2 hns₄ hm2 ?_) hfd
  refine wpAny_Name (wpAny_loadName_local rfl l1 hns₄ hm1 ?_) (by decide)
  refine set_plain X₄ (ox := excO C t1) (od := none) ⟨e₄, rfl, rfl, trivial⟩ T.sa ?_
  refine exc_osa X₄ e₄ hcl (show refsVE (.ref C :: bm) = true from hbm) rfl T.no (fun h₅ tk₅ dx k₅ dn dne hx₅ hn₅ => ?_)
  show _root_.PySem.wpAt _ _ _ (execs _ _) _ _ _
  refine wpAt_of_wpAny (wpAny_execs_nil (hq h₅ tk₅ dx t1 ⟨fun b o hb e => k₅ b o hb (kept b o hb e), hx₅, Nat.le_of_lt (Nat.lt_of_lt_of_le hns₄.lt dn), dne, hn₅⟩))
end
/-! ### such a class called with keywords -/
section
open Builtin Builtin.ObjectAttr
variable {M : Model} {A : Around} {E : Value → Shared → Prop} {h : Heap} {g : Array GenState} {d : Drawn} {t : Nat} {os : OsState}
variable {nm q : Str} {C N : Addr} {bs bm bmB : List Value} {hdct : Bool} {sn : List Str} {sub : List Value} {ab : Bool} {col : Option Bool} {dd : Option Addr} {k0 k1 k2 k3 k5 : Option Value} {B newId initId : String}
theorem kw_check (F : ExcBaseFacts B newId initId bmB) (hT : ∀ X : String, bm.contains (.type X) = bmB.contains (.type X)) {rest : List Value} {kw : List (Str × Value)} {Q : Unit → Shared → Prop}
    (hC : h.get? C = some (excClassObj nm q C N bs bm hdct sn sub ab col dd k0 k1 k2 k3 k5 newId)) (hq : Q () ⟨h, g, d, t, os⟩) : wpAny M A (checkBuiltinCall newId ⟨.ref C :: rest, kw⟩) Q E ⟨h, g, d, t, os⟩ := by
  have hB : (Value.ref C :: bm).contains (.type B) = true := by rw [List.contains_cons, hT, F.hasB, Bool.or_true]
  have hs := F.noStar
  simp only [checkBuiltinCall, F.newKind, F.newSplit, F.newRow]
  repeat (first | refine wpAny_loadPart_at hC ?_ | (refine wpAny_isSubtype_exc hC ?_; rw [hB]) | refine wpAny_staticBase_exc hC ?_ | refine wpAny_madeBy_exc hC ?_ | simp only [bne_self_eq_false, Bool.false_eq_true, if_false] | wp_step)
  exact hq
end
section
open Builtin Builtin.ObjectAttr
variable {prog : Program} {w : World} {A : Around} {E : Value → Shared → Prop} {R : Result → Shared → Prop} {h : Heap} {g : Array GenState} {d : Drawn} {t : Nat} {os : OsState}
variable {nm q : Str} {C N : Addr} {bs bm bmB : List Value} {hdct : Bool} {sn : List Str} {sub : List Value} {ab : Bool} {col : Option Bool} {dd : Option Addr} {k0 k1 k2 k3 k5 : Option Value} {B newId initId : String}
theorem kw_new (F : ExcBaseFacts B newId initId bmB) (hT : ∀ X : String, bm.contains (.type X) = bmB.contains (.type X)) {rest : List Value} {kw : List (Str × Value)}
    (hC : h.get? C = some (excClassObj nm q C N bs bm hdct sn sub ab col dd k0 k1 k2 k3 k5 newId))
    (hq : R (.ok (.ret (.ref (h.objs.size + 1)))) ⟨(h.push { cls := .type "tuple", data := .seq rest.toArray }).push { cls := .ref C, data := .fields #[.ref h.objs.size, .none, .none, .none, .bool false, .none] }, g, d, t, os⟩) (hz : rest.length ≤ sizeLine) :
    codeAny (model prog w) A (.builtin newId ⟨.ref C :: rest, kw⟩) R ⟨h, g, d, t, os⟩ := by
  have he := F.ends
  have hB : (Value.ref C :: bm).contains (.type B) = true := by rw [List.contains_cons, hT, F.hasB, Bool.or_true]
  have hA : (Value.ref C :: bm).contains (.type "AttributeError") = false := by rw [List.contains_cons, hT, F.noAttr]; rfl
  have hN : (Value.ref C :: bm).contains (.type "NameError") = false := by rw [List.contains_cons, hT, F.noName]; rfl
  refine codeAny_builtinAt F.entry ?_
  unfold Builtin.«BaseException.__new__»
  refine PySem.wpAt_bind ?_
  show PySem.wpAt _ _ _ (stack >>= _) _ _ _
  refine PySem.wpAt_bind (PySem.wpAt_stack fun p below => PySem.wpAt_of_wpAny ?_)
  wp_walk
  refine PySem.wpAt_of_wpAny ?_
  rw [F.owner]
  repeat (first | with_reducible refine wpAny_madeHere_exc F.canon hC ?_ | with_reducible refine wpAny_loadPart_at hC ?_ | (with_reducible refine wpAny_isSubtype_exc hC ?_; first | rw [hB] | rw [hA] | rw [hN]) | wp_step)
  show R _ _
  rw [Heap.size_push]
  exact hq
theorem kw_type (F : ExcBaseFacts B newId initId bmB) (hT : ∀ X : String, bm.contains (.type X) = bmB.contains (.type X)) {rest : List Value} {kw : List (Str × Value)} {fI : Addr} {Q : Fin → Shared → Prop}
    (hC : h.get? C = some (excClassObj nm q C N bs bm hdct sn sub ab col dd k0 k1 k2 k3 k5 newId))
    (hi : W.Looks (model prog w) h (typeLookup (.ref C) "__init__") (some (.ref fI))) (hb : ∀ self, W.Looks (model prog w) h (bindSpecial (.ref fI) self) (.ref fI, [self])) (hz : rest.length ≤ sizeLine)
    (hq : codeAny (model prog w) A (.call (.ref fI) ⟨.ref (h.objs.size + 1) :: rest, kw⟩)
      (fun r s' => match r with | .ok (.ret v) => v = .none ∧ Q (.done (.ret (.ref (h.objs.size + 1)))) s' | .ok _ => False | .error e => E e s')
      ⟨(h.push (W.kdv_tup rest)).push (excO C h.objs.size), g, d, t, os⟩) :
    wpAny (model prog w) A (Builtin.«type.__call__» ⟨.ref C :: rest, kw⟩) Q E ⟨h, g, d, t, os⟩ := by
  repeat (first | with_reducible refine wpAny_loadPart_at hC ?_ | with_reducible refine wpAny_madeBy_exc hC ?_ | wp_step)
  refine codeAny_call_builtin_code (Code.quiet_builtin _ F.quiet) (kw_check F hT hC ?_)
  refine kw_new F hT hC ?_ hz
  show wpAny _ _ _ _ _ _
  have kp : ∀ b o, h.get? b = some o → ((h.push (W.kdv_tup rest)).push (excO C h.objs.size)).get? b = some o := fun b o e => Heap.get?_push_of_some _ (Heap.get?_push_of_some _ e)
  have hC1 := kp _ _ hC
  have hg : ((h.push (W.kdv_tup rest)).push (excO C h.objs.size)).get? (h.objs.size + 1) = some (excO C h.objs.size) := by heap_get
  have hcC : (Value.ref C :: bm).contains (.ref C) = true := by simp
  have i1 := hi.keeps kp
  have b1 := (hb (.ref (h.objs.size + 1))).keeps kp
  unfold isInstance
  repeat (first | with_reducible refine wpAny_loadPart_at hg ?_ | (with_reducible refine wpAny_isSubtype_exc hC1 ?_; rw [hcC]) | wp_step)
  show wpAny _ _ (typeLookup (.ref C) _) _ _ _
  refine i1.at ?_
  refine wpAny_holding (wpAny_bind (b1.at ?_))
  refine wpAny_bind (wpAny_call (codeAny_mono hq fun r s' z => ?_))
  rcases r with e | (v | _ | _ | _) <;> first | exact z | exact z.elim | skip
  obtain ⟨rfl, z⟩ := z
  first
    | exact wpAny_pure (wpAny_pure z)
    | (wp_walk; exact z)
theorem kw_call (F : ExcBaseFacts B newId initId bmB) (hT : ∀ X : String, bm.contains (.type X) = bmB.contains (.type X)) {rest : List Value} {kw : List (Str × Value)} {fI : Addr}
    (hC : h.get? C = some (excClassObj nm q C N bs bm hdct sn sub ab col dd k0 k1 k2 k3 k5 newId))
    (hi : W.Looks (model prog w) h (typeLookup (.ref C) "__init__") (some (.ref fI))) (hb : ∀ self, W.Looks (model prog w) h (bindSpecial (.ref fI) self) (.ref fI, [self])) (ht : W.Looks (model prog w) h (isInstance (.ref C) (.type "type")) true) (hz : rest.length ≤ sizeLine)
    (hq : codeAny (model prog w) (A.under (.builtin "type.__call__" ⟨.ref C :: rest, kw⟩)) (.call (.ref fI) ⟨.ref (h.objs.size + 1) :: rest, kw⟩) (W.InitBack (h.objs.size + 1) R)
      ⟨(h.push (W.kdv_tup rest)).push (excO C h.objs.size), g, d, t, os⟩) :
    codeAny (model prog w) A (.call (.ref C) ⟨rest, kw⟩) R ⟨h, g, d, t, os⟩ := by
  have f1 := tc_lookup
  have f2 := tc_bind (.ref C)
  have hTy : (⟨h, g, d, t, os⟩ : Shared).TypeIs (.ref C) "type" := ⟨_, hC, rfl⟩
  refine codeAny_of_tree ?_
  show wpAny _ _ (callAny (.ref C) _) _ _ _
  repeat (any_goals (first | assumption | with_reducible refine wpAny_loadPart_at hC ?_ | wp_step))
  refine ⟨rfl, ?_⟩
  refine codeAny_call_builtin_at (Code.quiet_builtin _ (by decide +kernel)) entry_typeCall (W.check_slot tc_kind tc_split ht (W.tc_args _ _ _) (kw_type F hT hC hi hb hz ?_))
  refine codeAny_mono hq fun r s' z => ?_
  rcases r with e | (v | _ | _ | _) <;> exact z
end
end My
/-! exceptions as values -/
namespace L2
open PySem PySem.Spec PyProof.Rows My
/-- an exception object of the class at C whose own dict is at dd, at a -/
def ExD (C dd a : Addr) : HO := .ext fun h => ∃ vs : Array Value, h.get? a = some ({ cls := .ref C, dict := some dd, data := .fields vs } : Obj)
theorem exD_ok {P : Program} {w : World} {H : Hp} {h : Heap} {C dd a : Addr} {vs : Array Value} (e : h.get? a = some ({ cls := .ref C, dict := some dd, data := .fields vs } : Obj)) : ObjOk P w H h a (ExD C dd a) :=
  ⟨⟨vs, e⟩, ⟨_, e⟩, fun _ _ ⟨v, q⟩ k => ⟨v, k _ q⟩⟩
section
variable {X : Cx} {pins : List (Addr × Obj)} {σ : St} {H : Hp} {s : Shared}
/-- two new objects, tracked -/
theorem Inv.laid2 {h' : Heap} {a b : Addr} {o u : HO} {t' : Nat} (I : Inv X pins σ H s) (k : ∀ c v, s.heap.get? c = some v → h'.get? c = some v) (ha : s.heap.objs.size ≤ a) (hb : s.heap.objs.size ≤ b) (hab : a ≠ b)
    (na : ObjOk X.prog X.w (upd (upd H a o) b u) h' a o) (nb : ObjOk X.prog X.w (upd (upd H a o) b u) h' b u) : Inv X pins σ (upd (upd H a o) b u) { s with heap := h', toks := t' } := by
  have hna := I.hok.fresh ha
  have hnb := I.hok.fresh hb
  have lo : ∀ {c : Addr} {v : Obj}, s.heap.get? c = some v → c ≠ a ∧ c ≠ b := fun {c v} q => ⟨Nat.ne_of_lt (Nat.lt_of_lt_of_le (Heap.lt_size q) ha), Nat.ne_of_lt (Nat.lt_of_lt_of_le (Heap.lt_size q) hb)⟩
  have st : ∀ {c : Addr} {v : HO}, H c = some v → upd (upd H a o) b u c = some v := fun {c v} q => by
    rw [upd_ne (ne_of_none q hnb), upd_ne (ne_of_none q hna)]
    exact q
  refine I.un (t' := t') { keep := fun c v q _ _ _ => k c v q, slot := fun c v q _ _ _ => ⟨v.slots, k c v q⟩, free := fun c v q n _ => ?_, there := fun c v q _ => ⟨v, k c v q⟩, tups := fun c xs q => st q, frzs := fun c v xs q => st q, tbls := fun c ps q => ⟨#[], by rw [st q]; simp⟩ } fun c v e => ?_
  · rw [upd_ne (lo q).2, upd_ne (lo q).1]
    exact n
  · by_cases h1 : c = b
    · subst h1
      rw [upd_same] at e
      cases e
      exact nb
    · rw [upd_ne h1] at e
      by_cases h2 : c = a
      · subst h2
        rw [upd_same] at e
        cases e
        exact na
      · rw [upd_ne h2] at e
        exact (I.hok c v e).stay (fun d v' _ q => k d v' q) (fun d q => st q) fun d xs q => st q
end
theorem relO_one {v : V} {v' : Value} {g : Str} (r : RelV v v') (f : Str) : RelO (List.lookup f [(g, v)]) (if f = g then some v' else none) := by
  by_cases hw : f = g
  · subst hw
    rw [if_pos rfl]
    have q : List.lookup f [(f, v)] = some v := by simp [List.lookup]
    rw [q]
    exact r
  · rw [if_neg hw]
    have qw : (f == g) = false := by simpa using hw
    have q2 : List.lookup f [(g, v)] = none := by simp [List.lookup, qw]
    rw [q2]
    trivial
/-- what the whole program must say of super -/
structure SupOk (X : Cx) (file f : Str) : Prop where
  sup : X.mg "super" = none
  fileE : ((X.prog.main.file : Str) == file) = true
  topE : (X.prog.main.scope.names.lookup ("super" : Str)).isSome = false
  fs : ¬ f = "self"
  fc : ¬ f = "__class__"
  fu : ¬ f = "super"
  fd : (f == ("__debug__" : Str)) = false
  ty : ∀ C : Addr, PySem.W.typeIn X.K (.ref C) = some (.type "type") → PySem.W.instIn X.K (.ref C) (.type "type") = some true
section
variable {X : Cx} {pins : List (Addr × Obj)} {σ : St} {H : Hp} {s : Shared} {C fI : Addr} {f text file : Str}
theorem run_ini (T : IniAt X.K C fI f text file) (S : SupOk X file f) (tC : PySem.W.typeIn X.K (.ref C) = some (.type "type")) (I : Inv X pins σ H s) (hr : X.A.depth + 1 < recursionLimit) {v : V} {u : Value} (r : RelV v u) {us : List Value} {kw : List (Str × Value)} (hz : us.length ≤ sizeLine)
    (hb : ∀ (a1 a2 : Pos) (fd : FuncData) (s : Shared) (x : Value), fd.params = iniA f a1 a2 → fd.defaults = .none → BindsTo s fd ⟨x :: us, kw⟩ [(("self" : Str), x), (f, u)]) {Q : VK}
    (h : ∀ a dd, H a = none → H dd = none → dd ≠ a → Q (.ref a) (upd (upd H dd (.xd [(f, v)])) a (ExD C dd a))) :
    wpAny (model X.prog X.w) X.A (call (.ref C) us kw) (EP X pins σ Q) X.xe s := by
  obtain ⟨nm, q, N, bs, bm, sn, sub, ab, col, dd, k0, k1, k2, k3, k5, hC, hbm⟩ := T.cls
  have KX := I.kIn
  have lim := I.nolimit
  have bk := I.bk
  obtain ⟨mb, hB, hmb⟩ := I.mod.blt
  have G := I.mod.glob
  have KB := I.mod.kin
  have hfr : ∀ o, X.K.lookup (s.heap.objs.size + 1) ≠ some o := fun o e => by
    have z := Heap.lt_size (KX _ _ e)
    exact absurd (Nat.lt_of_succ_lt z) (Nat.lt_irrefl _)
  obtain ⟨hp, g, dr, tk, os⟩ := s
  refine wpAny_call (kw_call F.excBase_ValueError (fun Y => PySem.HandSPX.refsVE_contains Y bm hbm) (KX _ _ hC) (PySem.W.looks_findIn KX T.ini) (fun self => PySem.W.bind_fn KX self T.tI) (PySem.W.looks_instIn KX (S.ty C tC)) hz ?_)
  have kp : ∀ b o, hp.get? b = some o → ((hp.push (PySem.W.kdv_tup us)).push (PySem.HandSPX.excO C hp.objs.size)).get? b = some o := fun b o e => Heap.get?_push_of_some _ (Heap.get?_push_of_some _ e)
  have hget : ((hp.push (PySem.W.kdv_tup us)).push (PySem.HandSPX.excO C hp.objs.size)).get? (hp.objs.size + 1) = some (PySem.HandSPX.excO C hp.objs.size) := by heap_get
  refine ini_run (mg := X.mg) (mb := mb) T (KX.keeps kp) ((G.keeps bk).keeps kp) ((hB.keeps bk).keeps kp) hmb (lim.keeps kp) S.sup S.fileE S.topE S.fs S.fc S.fu S.fd (fun a1 a2 fd e ed => hb a1 a2 fd _ _ e ed) hget ?_ ?_ fun h' tk' dx t1 M => ?_
  · cases e : X.K.lookup (hp.objs.size + 1) with
    | none => rfl
    | some o => exact absurd e (hfr o)
  · rw [make_depth]
    exact hr
  · have old : ∀ b o, hp.get? b = some o → h'.get? b = some o := fun b o e => M.keep b o (Nat.ne_of_lt (Nat.lt_succ_of_lt (Heap.lt_size e))) (kp b o e)
    have hdx : hp.objs.size ≤ dx := by
      have z := M.dbig
      rw [Heap.size_push, Heap.size_push] at z
      omega
    have J := I.laid2 (t' := tk') (a := dx) (b := hp.objs.size + 1) (o := .xd [(f, v)]) (u := ExD C dx (hp.objs.size + 1)) (h' := h') old hdx (Nat.le_succ _) M.dne ⟨_, M.ns, fun y => relO_one r y⟩ (exD_ok M.obj)
    exact ⟨rfl, .ref (hp.objs.size + 1), _, J, rfl, h _ _ (I.hok.fresh (Nat.le_succ _)) (I.hok.fresh hdx) M.dne⟩
end

/-! ### C(e), C(f = e) as values -/
def tIni (C : Addr) (f : Str) (te : TE) : TE := fun σ H Q => te σ H fun v H1 => ∀ a dd, H1 a = none → H1 dd = none → dd ≠ a → Q (.ref a) (upd (upd H1 dd (.xd [(f, v)])) a (ExD C dd a))
section
variable {X : Cx} {C fI : Addr} {f text file x : Str} {e : Expr} {te : TE} {p pos kpos : Pos} {k : Nat}
theorem pe_ini (T : IniAt X.K C fI f text file) (S : SupOk X file f) (tC : PySem.W.typeIn X.K (.ref C) = some (.type "type")) (hr : Room k X.A) (gC : X.mg x = some (.ref C)) (hb : ∀ (a1 a2 : Pos) (fd : FuncData) (x u : Value), fd.params = iniA f a1 a2 → fd.defaults = .none → bindArgs fd ⟨[x, u], []⟩ = pure [(("self" : Str), x), (f, u)]) (he : PE X e te) (hg : Gl X x := by rfl)
    (hs : starEach [e] X.env = (false, eval e X.env) :: starEach [] X.env := by rfl) (hdb : (x == ("__debug__" : Str)) = false := by decide) : PE X (.Call (.Name x p) [e] [] pos) (tIni C f te) := by
  refine ⟨fun pins s σ H Q I h => ?_⟩
  refine wpAny_Call_Name_kw (ld_glob I hg gC ?_ hdb)
  refine PySem.W.callWith_K (h₀ := X.base) I.ok.mod.kin T.kC ?_ hs (by rfl)
  rw [hs]
  show wpAny _ _ (spliced ((false, eval e X.env) :: backTo pos (starEach [] X.env))) _ _ s
  refine Calls.spliced_cons (thn (he.run pins s σ H _ I h) fun u s1 ⟨v, H1, I1, r1, q1⟩ => ?_)
  refine Calls.spliced_nil ⟨I1.kIn, ?_⟩
  exact run_ini T S tC I1 (by have := hr.dp; omega) r1 (us := [u]) (kw := []) (by show 1 ≤ sizeLine; rw [sizeLine_eq]; omega) (fun a1 a2 fd s' y z zd => .of_eq (hb a1 a2 fd y u z zd)) q1
theorem pe_iniK (T : IniAt X.K C fI f text file) (S : SupOk X file f) (tC : PySem.W.typeIn X.K (.ref C) = some (.type "type")) (hr : Room k X.A) (gC : X.mg x = some (.ref C)) 
    (hb : ∀ (a1 a2 : Pos) (fd : FuncData) (x u : Value), fd.params = iniA f a1 a2 → fd.defaults = .none → bindArgs fd ⟨[x], [(f, u)]⟩ = pure [(("self" : Str), x), (f, u)]) (he : PE X e te) (hg : Gl X x := by rfl)
    (hdb : (x == ("__debug__" : Str)) = false := by decide) (hall : (backToKw pos (keywordEach [⟨some f, e, kpos⟩] X.env)).all (·.1.isSome) = true := by rfl) (hks : (backToKw pos (keywordEach [⟨some f, e, kpos⟩] X.env)).filterMap (·.1) = [f] := by rfl)
    (hpl : ((backTo pos (starEach [] X.env)).any (·.1) || (backToKw pos (keywordEach [⟨some f, e, kpos⟩] X.env)).any (·.1.isNone)) = false := by rfl) : PE X (.Call (.Name x p) [] [⟨some f, e, kpos⟩] pos) (tIni C f te) := by
  refine ⟨fun pins s σ H Q I h => ?_⟩
  refine wpAny_Call_Name_kw (ld_glob I hg gC ?_ hdb)
  refine PySem.W.callWith_KW0 (h₀ := X.base) I.ok.mod.kin T.kC hall ?_ hpl
  rw [hks]
  refine thn ((pk_cons he pk_nil).run pos pins s σ H (fun vs H1 => match vs with
    | [v] => ∀ a dd, H1 a = none → H1 dd = none → dd ≠ a → Q (.ref a) (upd (upd H1 dd (.xd [(f, v)])) a (ExD C dd a))
    | _ => False) I h) fun us s1 ⟨vs, H1, I1, r1, q1⟩ => ⟨I1.kIn, ?_⟩
  cases r1 with
  | nil => exact False.elim q1
  | @cons v u _ ur ru rr =>
    cases rr with
    | cons _ _ => exact False.elim q1
    | nil =>
      exact run_ini T S tC I1 (by have := hr.dp; omega) ru (us := []) (kw := [(f, u)]) (Nat.zero_le _) (fun a1 a2 fd s' y z zd => .of_eq (hb a1 a2 fd y u z zd)) q1
/-! ### e.f, e such a value -/
def tExF (K : PySem.W.Frag) (f : Str) (te : TE) : TE := fun σ H Q => te σ H fun x H1 => ∃ (a C dd : Addr) (v : V), x = .ref a ∧ H1 a = some (ExD C dd a) ∧ H1 dd = some (.xd [(f, v)]) ∧ ExcC K C ∧ PySem.W.findIn K (.ref C) f = some none ∧ Q v H1
theorem pe_exF (he : PE X e te) (hb : attributeBase e f X.env (eval e X.env) = eval e X.env := by rfl) : PE X (.Attribute e f pos) (tExF X.K f te) := by
  refine ⟨fun pins s σ H Q I h => ?_⟩
  refine attr_of hb (thn (he.run pins s σ H _ I h) fun u s1 hh => ?_)
  obtain ⟨x, H1, I1, rx, a, C, dd, v, ex, ea, ed, T, hno, q⟩ := hh
  subst ex
  obtain rfl : u = Value.ref a := rx
  obtain ⟨vs, ho⟩ : ∃ vs : Array Value, s1.heap.get? a = some ({ cls := .ref C, dict := some dd, data := .fields vs } : Obj) := (show ObjOk X.prog X.w H1 s1.heap a (ExD C dd a) from I1.hok a _ ea).1
  obtain ⟨mA, hns, hr⟩ := (show ObjOk X.prog X.w H1 s1.heap dd (.xd [(f, v)]) from I1.hok dd _ ed)
  obtain ⟨od, hod, hl⟩ := lookIn_ns hns
  have l : List.lookup f [(f, v)] = some v := by simp [List.lookup]
  obtain ⟨u', hu, ru⟩ := RelO.some_of (v := v) (o := mA f) (by rw [← l]; exact hr f)
  have J : PySem.W.InstAt s1.heap a ({ cls := .ref C, dict := some dd, data := .fields vs } : Obj) C (some od) := ⟨ho, rfl, rfl, hod⟩
  exact HandSPX.exc_get I1.kIn J T.hg T.hk T.hs (PySem.W.findObj_own T.hd hno rfl (by rw [hl, hu])) (handed_of ru) ⟨v, H1, I1.tok _, ru, q⟩
end
/-! ### isinstance of such values -/
def ErrV (H : Hp) (a C : Addr) : Prop := H a = some (ExO (.ref C) a) ∨ ∃ (dd : Addr) (fs : List (Str × V)), H a = some (ExD C dd a) ∧ H dd = some (.xd fs)
def ExB (T : String) (a : Addr) : HO := .ext fun h => ∃ o, h.get? a = some o ∧ o.cls = .type T
def rIsV (K : PySem.W.Frag) : List V → Hp → VK → Prop := fun xs H Q => ∃ (a C : Addr) (c : V) (cv : Value) (b : Bool), xs = [.ref a, c] ∧ ErrV H a C ∧ ExcC K C ∧ ClsV c cv ∧ PySem.W.kitOne K (.ref C) cv = some b ∧ Q (.bl b) H
def rIsB (K : PySem.W.Frag) : List V → Hp → VK → Prop := fun xs H Q => ∃ (a : Addr) (c : V) (cv : Value) (b : Bool), xs = [.ref a, c] ∧ H a = some (ExB "ValueError" a) ∧ ClsV c cv ∧ PySem.W.kitOne K (.type "ValueError") cv = some b ∧ Q (.bl b) H
section
variable {X : Cx}
theorem call_isV : CallR X (.builtin "isinstance") (rIsV X.K) := by
  intro pins s σ H xs us Q I r h
  obtain ⟨a, C, c, cv, b, rfl, ea, T, k, e, q⟩ := h
  obtain ⟨u1, u2, rfl, r1, r2⟩ := vals2 r
  have e2 := k.eq r2
  subst e2
  obtain rfl : u1 = Value.ref a := r1
  have hcl : (PySem.W.clsIn X.K C).isSome = true := by
    obtain ⟨cd, hc, _⟩ := PySem.W.any_some T.hd
    rw [hc]; rfl
  rcases ea with ea | ⟨dd, fs, ea, ed⟩
  · obtain ⟨oe, vs, ho, hz, hd, _⟩ := (show ObjOk X.prog X.w H s.heap a (ExO (.ref C) a) from I.hok a _ ea).1
    have J : PySem.W.InstAt s.heap a oe C none := ⟨ho, hz.1, by unfold PySem.W.notCls; rw [hd] <;> rfl, by rw [hz.2]; trivial⟩
    exact PySem.W.kia_one (PySem.W.kitx_exc hcl T.hg T.hk T.hs T.ha T.hn T.ht T.hm) I.kIn J e (fun z => nomatch z) fun tk => ⟨.bl b, H, I.tok tk, rfl, q⟩
  · obtain ⟨vs, ho⟩ : ∃ vs : Array Value, s.heap.get? a = some ({ cls := .ref C, dict := some dd, data := .fields vs } : Obj) := (show ObjOk X.prog X.w H s.heap a (ExD C dd a) from I.hok a _ ea).1
    obtain ⟨mA, ⟨od, es, ep, hod, _⟩, _⟩ := (show ObjOk X.prog X.w H s.heap dd (.xd fs) from I.hok dd _ ed)
    have J : PySem.W.InstAt s.heap a ({ cls := .ref C, dict := some dd, data := .fields vs } : Obj) C (some od) := ⟨ho, rfl, rfl, hod⟩
    exact PySem.W.kia_one (PySem.W.kitx_exc hcl T.hg T.hk T.hs T.ha T.hn T.ht T.hm) I.kIn J e (fun z => nomatch z) fun tk => ⟨.bl b, H, I.tok tk, rfl, q⟩
theorem call_isB : CallR X (.builtin "isinstance") (rIsB X.K) := by
  intro pins s σ H xs us Q I r h
  obtain ⟨a, c, cv, b, rfl, ea, k, e, q⟩ := h
  obtain ⟨u1, u2, rfl, r1, r2⟩ := vals2 r
  have e2 := k.eq r2
  subst e2
  obtain rfl : u1 = Value.ref a := r1
  have J : PySem.W.KitAt a "ValueError" s.heap := (show ObjOk X.prog X.w H s.heap a (ExB "ValueError" a) from I.hok a _ ea).1
  exact PySem.W.kia_one (PySem.W.kitx_bexc F.excAttr_ValueError F.lkClass_ValueError F.soClass_ValueError (by decide +kernel)) I.kIn J e (fun z => nomatch z) fun tk => ⟨.bl b, H, I.tok tk, rfl, q⟩
/-- ValueError(e) as a value -/
theorem pe_excB {e : Expr} {te : TE} {p pos : Pos} (hm : X.mg "ValueError" = none) (he : PE X e te) (hg : Gl X "ValueError" := by rfl) (hs : starEach (e :: []) X.env = (false, eval e X.env) :: starEach [] X.env := by rfl) (hpl : (backTo pos (starEach [] X.env)).any (·.1) = false := by rfl) :
    PE X (.Call (.Name "ValueError" p) [e] [] pos) (fun σ H Q => te σ H fun _ H1 => ∀ a, H1 a = none → Q (.ref a) (upd H1 a (ExB "ValueError" a))) := by
  refine ⟨fun pins s σ H Q I h => ?_⟩
  refine wpAny_Call_Name_kw (ld_blt I hg hm boot_ValueError ?_ (by decide) (by decide))
  refine PyProof.Rows.callWith_type1 (thn ((pa_cons he pa_nil hs).run pos pins s σ H (fun vs H1 => match vs with
    | [_] => ∀ a, H1 a = none → Q (.ref a) (upd H1 a (ExB "ValueError" a))
    | _ => False) I h) fun us s1 hh => ?_) hs hpl
  obtain ⟨vs, H1, I1, r1, q1⟩ := hh
  cases r1 with
  | nil => exact False.elim q1
  | @cons v u _ ur ru rr =>
   cases rr with
   | cons _ _ => exact False.elim q1
   | nil =>
    obtain ⟨hp1, g1, d1, tk1, os1⟩ := s1
    refine wpAny_call_exc exb_ValueError.call (fun h' a mk => ?_) (by show 1 ≤ sizeLine; rw [sizeLine_eq]; omega)
    have hn : H1 a = none := I1.hok.gone mk.new
    obtain ⟨t0, ha', _⟩ := mk.there
    exact ⟨.ref a, upd H1 a (ExB "ValueError" a), I1.laidN mk.keeps mk.new hn ⟨⟨_, ha', rfl⟩, ⟨_, ha'⟩, fun _ _ ⟨o, q, c⟩ k => ⟨o, k o q, c⟩⟩, rfl, q1 a hn⟩
end
end L2
namespace My
open PySem PySem.Spec PyProof.Rows L2 He
/-! ### what the head's run says, as facts -/
theorem frList_eq : ∀ (l : List Nat) (k : List Nat → Bool), frList l k = k l
  | [], k => rfl
  | a :: r, k => by
    show HandSHeadRun.frNat a (fun a => frList r fun r => k (a :: r)) = k (a :: r)
    rw [HandSHeadRun.frNat_eq, frList_eq r]
theorem inj_of {f : Str → Nat} : ∀ l : List Str, (l.map f).Nodup → ∀ x ∈ l, ∀ y ∈ l, f x = f y → x = y
  | [], _, x, hx, _, _, _ => nomatch hx
  | a :: r, h, x, hx, y, hy, e => by
    rw [List.map_cons, List.nodup_cons] at h
    obtain ⟨h1, h2⟩ := h
    rcases List.mem_cons.mp hx with rfl | hx
    · rcases List.mem_cons.mp hy with rfl | hy
      · rfl
      · exact absurd (List.mem_map.mpr ⟨y, hy, e.symm⟩) h1
    · rcases List.mem_cons.mp hy with q | hy
      · exact absurd (List.mem_map.mpr ⟨x, hx, by rw [e, q]⟩) h1
      · exact inj_of r h2 x hx y hy e
structure ClsF (K : PySem.W.Frag) (more : List Value) (x : Str) : Prop where
  hg : PySem.W.findIn K (.ref (ga K x)) "__getattribute__" = some (some (.builtin "BaseException.__getattribute__"))
  hk : PySem.W.findIn K (.ref (ga K x)) "__getattr__" = some none
  ha : PySem.W.findIn K (.ref (ga K x)) "__class__" = some (some (.builtin "object.__class__"))
  hd : PySem.W.hasDictIn K (ga K x) = true
  kp : PySem.W.keepIn K (.ref (ga K x)) = true
  ty : PySem.W.typeIn K (.ref (ga K x)) = some (.type "type")
  mro : (PySem.W.clsIn K (ga K x)).map (·.mro) = some (.ref (ga K x) :: more)
theorem clsE_ok {K : PySem.W.Frag} {more : List Value} {x : Str} (c : clsE K more x = true) : ClsF K more x := by
  unfold clsE at c
  obtain ⟨c1, c⟩ := ba c
  obtain ⟨c2, c⟩ := ba c
  obtain ⟨c3, c⟩ := ba c
  obtain ⟨c4, c⟩ := ba c
  obtain ⟨c5, c⟩ := ba c
  obtain ⟨c6, c7⟩ := ba c
  exact ⟨eqO_ok c1, eqO_ok c2, eqO_ok c3, c4, c5, of_decide_eq_true c6, of_decide_eq_true c7⟩
section
variable {K : PySem.W.Frag} {more : List Value} {x : Str}
theorem ClsF.mroIn (F : ClsF K more x) (b : Value) : PySem.W.mroIn K (ga K x) b = some ((.ref (ga K x) :: more).contains b) := by
  obtain ⟨cd, h1, h2⟩ := Option.map_eq_some_iff.mp F.mro
  unfold PySem.W.mroIn
  rw [h1, Option.bind_some, h2, if_neg (show ¬ (List.isEmpty (Value.ref (ga K x) :: more) = true) from Bool.false_ne_true)]
theorem ClsF.isS (F : ClsF K more x) : (PySem.W.clsIn K (ga K x)).isSome = true := by
  obtain ⟨cd, h1, h2⟩ := Option.map_eq_some_iff.mp F.mro
  rw [h1]
  rfl
theorem ClsF.excC (F : ClsF K more x) (hn : PySem.W.specialIn K (.builtin "object.__class__") "__get__" = some (some (.builtin "getset_descriptor.__get__"))) (ht : PySem.W.takesIn K (.builtin "object.__class__") = some true)
    (h1 : more.contains (.type "BaseException") = true) (h2 : more.contains (.type "object") = true) : ExcC K (ga K x) := by
  have q : ∀ T : String, more.contains (.type T) = true → PySem.W.mroIn K (ga K x) (.type T) = some true := fun T h => by
    rw [F.mroIn, List.contains_cons, h, Bool.or_true]
  exact ⟨F.hg, F.hk, q _ h1, F.hd, F.ha, hn, ht, q _ h2⟩
/-- isinstance of a class's own instances, of another class's -/
theorem ClsF.kit (F : ClsF K more x) {more' : List Value} {y : Str} (G : ClsF K more' y) : PySem.W.kitOne K (.ref (ga K x)) (.ref (ga K y)) = some ((Value.ref (ga K x) :: more).contains (.ref (ga K y))) := by
  unfold PySem.W.kitOne
  by_cases e : ga K x = ga K y
  · rw [if_pos (by rw [e]; exact beq_self_eq_true _), List.contains_cons, e, beq_self_eq_true, Bool.true_or]
  · rw [if_neg (fun z => e (Value.ref.inj (beq_iff_eq.mp z)))]
    show (if ((PySem.W.clsIn K (ga K y)).isSome && PySem.W.typeIn K (.ref (ga K y)) == some (.type "type")) = true then PySem.W.mroIn K (ga K x) (.ref (ga K y)) else none) = _
    rw [G.isS, G.ty, if_pos (by rfl), F.mroIn]
theorem ClsF.kitT (F : ClsF K more x) {T : String} (hT : PySem.W.kitMeta T = true) (h : more.contains (.type T) = true) : PySem.W.kitOne K (.ref (ga K x)) (.type T) = some true := by
  unfold PySem.W.kitOne
  rw [if_neg (fun z => Value.noConfusion (beq_iff_eq.mp z))]
  show (if PySem.W.kitMeta T = true then PySem.W.mroIn K (ga K x) (.type T) else none) = _
  rw [if_pos hT, F.mroIn, List.contains_cons, h, Bool.or_true]
end
/-- an exception class of this text, made by its own super().__init__ -/
theorem clsX_ok {K : PySem.W.Frag} {C : Addr} (c : clsX K C = true) : ∃ nm q N bs bm sn sub ab col dd k0 k1 k2 k3 k5, K.lookup C = some (excClassObj nm q C N bs bm true sn sub ab col dd k0 k1 k2 k3 k5 "ValueError.__new__") ∧ PySem.HandSPX.refsVE bm = true := by
  unfold clsX at c
  split at c
  · rename_i tc dd cd sl ho
    have ct := (ba c).1
    replace c := (ba c).2
    have et := of_decide_eq_true ct
    subst et
    clear ct
    split at c
    · rename_i C' bm k0 k1 k2 k3 n k5 hm hs
      obtain ⟨q1, c⟩ := ba c
      obtain ⟨q2, c⟩ := ba c
      obtain ⟨q3, c⟩ := ba c
      obtain ⟨q4, q5⟩ := ba c
      have e1 := of_decide_eq_true q1
      have e2 := of_decide_eq_true q2
      subst e1 e2
      obtain ⟨nm, bs, mro, ns, qn, hd, sn, sub, ab, col, del⟩ := cd
      dsimp only at hm q3 q4
      have q3' : del = false := by simpa using q3
      subst hm q3' q4
      have hsl : sl = #[k0, k1, k2, k3, some (.builtin "ValueError.__new__"), k5] := by
        obtain ⟨l⟩ := sl
        simp only at hs
        rw [hs]
      subst hsl
      exact ⟨nm, qn, ns, bs, bm, sn, sub, ab, col, dd, k0, k1, k2, k3, k5, ho, q5⟩
    · cases c
  · cases c
theorem arr2 {vs : Array Value} {a b c : Value} {r : List Value} (h : vs.toList = a :: b :: c :: r) : vs[2]? = some c := by
  obtain ⟨l⟩ := vs
  simp only at h
  rw [h]
  rfl
/-- the shape of the text's __init__ -/
def ShI (i : Nat) (f text : Str) : Prop := ∃ (a1 a2 p0 p1 p2 p3 p4 p5 q1 q2 q3 q4 : Pos) (k : Nat), defArgs (initS i) = iniA f a1 a2 ∧ defBody (initS i) = iniB f text p0 p1 p2 p3 p4 p5 q1 q2 q3 q4 k ∧ defScope (initS i) = iniS f ∧ (p2.endLine == p4.line) = true
theorem p_code {K : PySem.W.Frag} {v : Value} (c : (match v with
      | .ref c => (match K.lookup c with
        | some ⟨_, _, .fields vs, _⟩ => (match vs.toList with
          | _ :: _ :: .str z _ :: _ => decide (z = "/claim/cut.py")
          | _ => false)
        | _ => false)
      | _ => false) = true) : ∃ (cda : Addr) (ccl : Value) (cdd : Option Addr) (vs : Array Value) (ccs : Array (Option Value)) (tf : Tok), v = .ref cda ∧ K.lookup cda = some ⟨ccl, cdd, .fields vs, ccs⟩ ∧ vs[2]? = some (.str "/claim/cut.py" tf) := by
  cases v with
  | ref cda =>
    dsimp only at c
    generalize hl : K.lookup cda = lk at c
    split at c
    · rename_i u1 u2 vs u3
      split at c
      · rename_i y1 y2 z tf rr hv
        have ez := of_decide_eq_true c
        subst ez
        exact ⟨cda, _, _, vs, _, tf, rfl, hl, arr2 hv⟩
      · cases c
    · cases c
  | _ => cases c
theorem p_cell {K : PySem.W.Frag} {l : List (Str × Addr)} {D : Addr} (c : (match l with
      | [(_, c)] => (match K.lookup c with
        | some ⟨_, _, .cell (some (.ref C)), _⟩ => decide (C = D)
        | _ => false)
      | _ => false) = true) : ∃ (n : Str) (cc : Addr) (cl : Value) (cld : Option Addr) (csl : Array (Option Value)), l = [(n, cc)] ∧ K.lookup cc = some ⟨cl, cld, .cell (some (.ref D)), csl⟩ := by
  split at c
  · rename_i n cc
    generalize hl : K.lookup cc = lk at c
    split at c
    · rename_i u1 u2 C u3
      have eC := of_decide_eq_true c
      subst eC
      exact ⟨n, cc, _, _, _, rfl, hl⟩
    · cases c
  · cases c
theorem ini_fn {K : PySem.W.Frag} {x f text : Str} {i : Nat} (sh : ShI i f text) (e : fnI K x = valI x i) (c : iniX K x = true) :
    ∃ (oc kV doc pm ct ccl cl : Value) (od an cdd cld : Option Addr) (osl ccs csl : Array (Option Value)) (qual : Str) (cda cc : Addr) (vs : Array Value) (tf : Tok) (a1 a2 p0 p1 p2 p3 p4 p5 q1 q2 q3 q4 : Pos) (k : Nat),
    K.lookup (ma K (ga K x) "__init__") = some ⟨oc, od, .func (PySem.W.fnX "__init__" qual (iniA f a1 a2) (iniB f text p0 p1 p2 p3 p4 p5 q1 q2 q3 q4 k) (iniS f) [("__class__", cc)] .none kV doc pm an (.ref cda) ct), osl⟩ ∧ PySem.W.codeIn K (.ref cda) qual = true ∧
    K.lookup cda = some ⟨ccl, cdd, .fields vs, ccs⟩ ∧ vs[2]? = some (.str "/claim/cut.py" tf) ∧ K.lookup cc = some ⟨cl, cld, .cell (some (.ref (ga K x))), csl⟩ ∧ (p2.endLine == p4.line) = true := by
  unfold fnI at e
  unfold iniX at c
  generalize hl : K.lookup (ma K (ga K x) "__init__") = lk at e c
  cases lk with
  | none => cases c
  | some o =>
    obtain ⟨oc, od, dt, osl⟩ := o
    cases dt with
    | func fd =>
      obtain ⟨n1, n2, n3, n4, n5, n6, n7, n8, n9, n10, n11, n12, n13, n14, n15⟩ := fd
      have e2 : (some (n1, n2, n3, n4, n5, n6, n7.map (·.1), n15) : FnI) = (some (("__init__" : Str), x ++ ".__init__", defArgs (initS i), FuncBody.stmts (defBody (initS i)), defScope (initS i), mainGlobals, [("__class__" : Str)], builtinsNs) : FnI) := e
      simp only [Option.some.injEq, Prod.mk.injEq] at e2
      obtain ⟨h1, h2, h3, h4, h5, h6, h7, h8⟩ := e2
      dsimp only at c
      have c0 : n8 = .none := of_decide_eq_true (ba c).1
      replace c := (ba c).2
      subst c0
      have c1 := (ba c).1
      obtain ⟨cda, ccl, cdd, vs, ccs, tf, r1, r2, r3⟩ := p_code (ba (ba c).2).1
      obtain ⟨n, cc, cl, cld, csl, r4, r5⟩ := p_cell (ba (ba c).2).2
      clear c e
      subst r1 r4
      have hn : n = ("__class__" : Str) := (List.cons.inj h7).1
      obtain ⟨a1, a2, p0, p1, p2, p3, p4, p5, q1, q2, q3, q4, k, s1, s2, s3, s4⟩ := sh
      rw [s1] at h3
      rw [s2] at h4
      rw [s3] at h5
      subst h1 h2 h3 h4 h5 h6 h8 hn
      exact ⟨oc, n9, n10, n11, n14, ccl, cl, od, n12, cdd, cld, osl, ccs, csl, _, cda, cc, vs, tf, a1, a2, p0, p1, p2, p3, p4, p5, q1, q2, q3, q4, k, rfl, c1, r2, r3, r5, s4⟩
    | _ => cases c
theorem ini_at {K : PySem.W.Frag} {x f text : Str} {i : Nat} {more : List Value} (sh : ShI i f text) (F : ClsF K more x) (e : fnI K x = valI x i) (c : initE K x f = true) (o : PySem.W.nsIn K cStatics "thirdparty.any" = some none) : IniAt K (ga K x) (ma K (ga K x) "__init__") f text "/claim/cut.py" := by
  unfold initE at c
  obtain ⟨c1, c⟩ := ba c
  obtain ⟨c2, c⟩ := ba c
  obtain ⟨c3, c⟩ := ba c
  obtain ⟨c4, c⟩ := ba c
  obtain ⟨c5, c⟩ := ba c
  obtain ⟨c6, c7⟩ := ba c
  exact ⟨eqO_ok c1, eqO_ok c2, eqO_ok c3, by simpa [PySem.W.isFn] using c4, F.kp, clsX_ok c6, eqO_ok c5, o, ini_fn sh e c7⟩
theorem sh_text : ShI 36 "line" "a line that cannot stand there" := ⟨_, _, _, _, _, _, _, _, _, _, _, _, _, by rfl, by rfl, by rfl, by decide +kernel⟩
theorem sh_drawn : ShI 45 "fault" "no drawing" := ⟨_, _, _, _, _, _, _, _, _, _, _, _, _, by rfl, by rfl, by rfl, by decide +kernel⟩
theorem sh_many : ShI 61 "most" "more than there may be" := ⟨_, _, _, _, _, _, _, _, _, _, _, _, _, by rfl, by rfl, by rfl, by decide +kernel⟩
theorem sh_journal : ShI 14 "at" "a deed that cannot be done" := ⟨_, _, _, _, _, _, _, _, _, _, _, _, _, by rfl, by rfl, by rfl, by decide +kernel⟩
/-- what the head says of this text's exceptions -/
structure Facts (K : PySem.W.Frag) (mg : Str → Option Value) : Prop where
  de : ClsF K veBase "DrawError"
  kd : ∀ x ∈ kindN, ClsF K (.ref (ga K "DrawError") :: veBase) x
  gl : ∀ x ∈ ("DrawError" : Str) :: kindN, mg x = some (.ref (ga K x))
  pl : ∀ x ∈ plainN, PySem.W.excIn K (ga K x) veBase "ValueError.__new__" = true
  hn : PySem.W.specialIn K (.builtin "object.__class__") "__get__" = some (some (.builtin "getset_descriptor.__get__"))
  ht : PySem.W.takesIn K (.builtin "object.__class__") = some true
  inj : ∀ x ∈ ("DrawError" : Str) :: kindN, ∀ y ∈ ("DrawError" : Str) :: kindN, ga K x = ga K y → x = y
  iJ : IniAt K (ga K "BadJournal") (ma K (ga K "BadJournal") "__init__") "at" "a deed that cannot be done" "/claim/cut.py"
  iT : IniAt K (ga K "BadText") (ma K (ga K "BadText") "__init__") "line" "a line that cannot stand there" "/claim/cut.py"
  iD : IniAt K (ga K "NotDrawn") (ma K (ga K "NotDrawn") "__init__") "fault" "no drawing" "/claim/cut.py"
  iM : IniAt K (ga K "TooMany") (ma K (ga K "TooMany") "__init__") "most" "more than there may be" "/claim/cut.py"
theorem says_D {K : PySem.W.Frag} (e : obsM K = valM) : SaysD faL fnD K := congrArg (fun z : AlM => z.1) e
theorem says_m {K : PySem.W.Frag} (c : SaysD faL fnD K) {f : Fa} (h : f ∈ faL) : f.ok K = true := by
  have c1 := (ba (show ((faL.all fun f => f.ok K) && fnD.all fun d => d.ok K) = true from congrArg (fun z : AlD => z.1) c)).1
  exact List.all_eq_true.mp c1 f h
theorem facts_of {K : PySem.W.Frag} {h : Heap} {mg : Str → Option Value} (X : K.In h) (G : h.Ns mainGlobals mg) (e : obsM K = valM) : Facts K mg := by
  have c := says_D e
  have c8 : ex8 K = true := congrArg (fun z : AlM => z.2.1) e
  have cI : initN.map (fun x => fnI K x) = valsI := congrArg (fun z : AlM => z.2.2) e
  unfold ex8 at c8
  obtain ⟨q0, c8⟩ := ba c8
  obtain ⟨q1, c8⟩ := ba c8
  obtain ⟨q2, c8⟩ := ba c8
  obtain ⟨q3, c8⟩ := ba c8
  obtain ⟨q4, c8⟩ := ba c8
  obtain ⟨i1, c8⟩ := ba c8
  obtain ⟨i2, c8⟩ := ba c8
  obtain ⟨i3, c8⟩ := ba c8
  obtain ⟨i4, q5⟩ := ba c8
  rw [frList_eq] at q5
  have kd : ∀ x ∈ kindN, ClsF K (.ref (ga K "DrawError") :: veBase) x := fun x hx => clsE_ok (List.all_eq_true.mp q4 x hx)
  have o := eqO_ok q0
  have z : [fnI K "BadJournal", fnI K "BadText", fnI K "NotDrawn", fnI K "TooMany"] = [valI "BadJournal" 14, valI "BadText" 36, valI "NotDrawn" 45, valI "TooMany" 61] := cI
  injection z with z1 z
  injection z with z2 z
  injection z with z3 z
  injection z with z4 z
  refine ⟨clsE_ok q3, kd, fun x hx => ?_, fun x hx => ?_, eqO_ok q1, of_decide_eq_true q2, inj_of _ (of_decide_eq_true q5), ini_at sh_journal (kd _ (by decide +kernel)) z1 i1 o, ini_at sh_text (kd _ (by decide +kernel)) z2 i2 o, ini_at sh_drawn (kd _ (by decide +kernel)) z3 i3 o, ini_at sh_many (kd _ (by decide +kernel)) z4 i4 o⟩
  · exact glo_ok X G (says_m c (List.mem_append.mpr (.inr (List.mem_map.mpr ⟨x, hx, rfl⟩))))
  · exact (exc_ok (says_m c (List.mem_append.mpr (.inl (List.mem_append.mpr (.inr (List.mem_map.mpr ⟨x, hx, rfl⟩))))))).1
section
variable {K : PySem.W.Frag} {mg : Str → Option Value}
theorem Facts.exc (F : Facts K mg) {x : Str} (hx : x ∈ ("DrawError" : Str) :: kindN) : ExcC K (ga K x) := by
  rcases List.mem_cons.mp hx with rfl | hx
  · exact F.de.excC F.hn F.ht (by decide +kernel) (by decide +kernel)
  · exact (F.kd x hx).excC F.hn F.ht (by rw [List.contains_cons]; exact (Bool.or_eq_true_iff.mpr (.inr (by decide +kernel)))) (by rw [List.contains_cons]; exact (Bool.or_eq_true_iff.mpr (.inr (by decide +kernel))))
theorem Facts.kp (F : Facts K mg) {x : Str} (hx : x ∈ ("DrawError" : Str) :: kindN) : PySem.W.keepIn K (.ref (ga K x)) = true := by
  rcases List.mem_cons.mp hx with rfl | hx
  · exact F.de.kp
  · exact (F.kd x hx).kp
theorem Facts.ty (F : Facts K mg) {x : Str} (hx : x ∈ kindN) : PySem.W.typeIn K (.ref (ga K x)) = some (.type "type") := (F.kd x hx).ty
theorem nDK : ("DrawError" : Str) ∉ kindN := by decide +kernel
theorem Facts.ne (F : Facts K mg) {x y : Str} (hx : x ∈ ("DrawError" : Str) :: kindN) (hy : y ∈ ("DrawError" : Str) :: kindN) (h : x ≠ y) : (Value.ref (ga K x) == Value.ref (ga K y)) = false := by
  rw [beq_eq_false_iff_ne]
  exact fun e => h (F.inj x hx y hy (Value.ref.inj e))
theorem ve_ref (a : Addr) : veBase.contains (.ref a) = false := by
  unfold veBase
  simp [List.contains_cons]
theorem Facts.kk (F : Facts K mg) {x y : Str} (hx : x ∈ kindN) (hy : y ∈ kindN) : PySem.W.kitOne K (.ref (ga K x)) (.ref (ga K y)) = some (decide (x = y)) := by
  rw [(F.kd x hx).kit (F.kd y hy)]
  have mx : x ∈ ("DrawError" : Str) :: kindN := List.mem_cons_of_mem _ hx
  have my : y ∈ ("DrawError" : Str) :: kindN := List.mem_cons_of_mem _ hy
  have nd : y ≠ "DrawError" := fun e => nDK (e ▸ hy)
  rw [List.contains_cons, List.contains_cons, ve_ref, F.ne my (List.mem_cons_self ..) nd]
  by_cases e : x = y
  · subst e
    simp
  · rw [F.ne my mx (Ne.symm e)]
    simp [e]
theorem Facts.kD (F : Facts K mg) {x : Str} (hx : x ∈ kindN) : PySem.W.kitOne K (.ref (ga K x)) (.ref (ga K "DrawError")) = some true := by
  rw [(F.kd x hx).kit F.de]
  simp
theorem Facts.Dk (F : Facts K mg) {y : Str} (hy : y ∈ kindN) : PySem.W.kitOne K (.ref (ga K "DrawError")) (.ref (ga K y)) = some false := by
  rw [F.de.kit (F.kd y hy)]
  have nd : y ≠ "DrawError" := fun e => nDK (e ▸ hy)
  rw [List.contains_cons, ve_ref, F.ne (List.mem_cons_of_mem _ hy) (List.mem_cons_self ..) nd]
  rfl
theorem kmV : PySem.W.kitMeta "ValueError" = true := by decide +kernel
theorem Facts.kV (F : Facts K mg) {x : Str} (hx : x ∈ ("DrawError" : Str) :: kindN) : PySem.W.kitOne K (.ref (ga K x)) (.type "ValueError") = some true := by
  rcases List.mem_cons.mp hx with rfl | hx
  · exact F.de.kitT kmV (by decide +kernel)
  · exact (F.kd x hx).kitT kmV (by rw [List.contains_cons]; exact (Bool.or_eq_true_iff.mpr (.inr (by decide +kernel))))
theorem Facts.VD (F : Facts K mg) : PySem.W.kitOne K (.type "ValueError") (.ref (ga K "DrawError")) = some false := by
  unfold PySem.W.kitOne
  rw [if_neg (fun z => Value.noConfusion (beq_iff_eq.mp z))]
  show (if ((PySem.W.clsIn K (ga K "DrawError")).isSome && PySem.W.typeIn K (.ref (ga K "DrawError")) == some (.type "type")) = true then PySem.W.subIn K (.type "ValueError") (.ref (ga K "DrawError")) else none) = _
  rw [F.de.isS, F.de.ty, if_pos (by rfl)]
  rfl
end
end My
namespace My
open PySem L2 Evl
abbrev sBegun : Stmt := topS 63
abbrev sBlended : Stmt := topS 64
abbrev sDraw : Stmt := topS 65
abbrev sPick : Stmt := topS 66

/-- the dict of the source of draws -/
def stK (g c : Addr) (left turn : Int) : List (Key × V) := [(.inr "great", .ref g), (.inr "cells", .ref c), (.inr "left", .int left), (.inr "turn", .int turn)]
/-- the source of draws at d, its lists at g and c; at most T numbers were blended -/
def StD (H : Hp) (d g c : Addr) (T : Int) : Prop := ∃ (gs cs : List Int) (left turn : Int), H d = some (.dK (stK g c left turn)) ∧ H g = some (.lst (gs.map V.int)) ∧ H c = some (.lst (cs.map V.int)) ∧ 0 ≤ turn ∧ turn ≤ T ∧ g ≠ c
/-- all stands but d and g -/
def Kp (d g : Addr) (H H' : Hp) : Prop := ∀ b o, b ≠ d → b ≠ g → H b = some o → H' b = some o
/-- the built-ins that the draws use -/
structure DrB (mg : Str → Option Value) : Prop where
  abs : mg "abs" = none
  int : mg "int" = none
  len : mg "len" = none

def spBegun (K : PySem.W.Frag) : Sp := fun vs H Q _ => ∃ (a : Addr) (ns : List Int), vs = [.ref a] ∧ SqL K H a (ns.map V.int) ∧ ns.length ≤ 63 ∧
  ∀ (d g c : Addr) (H' : Hp), H d = none → H g = none → H c = none → StD H' d g c 0 → Ex H H' → Q (.ref d) H'

section
variable {P : Program} {w : World} {K : PySem.W.Frag} {mg : Str → Option Value} {base : Heap}
theorem scB : FnScope ["script", "great", "cell"] ["script"] (defScope sBegun) := ⟨rfl, rfl, rfl, by decide +kernel, rfl, by decide +kernel, by decide +kernel⟩
theorem ints_map {xs : List V} (h : ∀ x ∈ xs, ∃ i, x = V.int i) : ∃ l : List Int, xs = l.map V.int := by
  induction xs with
  | nil => exact ⟨[], rfl⟩
  | cons a r ih =>
    obtain ⟨i, rfl⟩ := h a (List.mem_cons_self ..)
    obtain ⟨l, e⟩ := ih fun x hx => h x (List.mem_cons_of_mem _ hx)
    exact ⟨i :: l, by rw [e]; rfl⟩
theorem given_ints {n : Nat} {f : Nat → Bool} {v : Nat → Int} : ∃ l : List Int, given n f (fun i => V.int (v i)) = l.map V.int := by
  refine ints_map fun x hx => ?_
  unfold given at hx
  obtain ⟨i, _, rfl⟩ := List.mem_map.mp hx
  exact ⟨_, rfl⟩
theorem ok_begun {f : Addr} {fd : FuncData} (F : Fun K "_law_begun" "_law_begun" sBegun f fd) (B : DrB mg) : FnOk P w K mg base CX0 1 f fd ["script"] (spBegun K) := by
  refine F.ok scB (fun vs H Q E h => ?_) (fun cdv A outer s H vs Q E hr h => ?_)
  · obtain ⟨a, ns, rfl, _⟩ := h
    rfl
  · obtain ⟨a, ns, rfl, hS, hl, k⟩ := h
    refine ⟨_, pss_cons (ps_setLc (i := 1) (own := [("cell", 2)]) (g := gName 2) rfl scB.nd rfl rfl (sw_true rfl rfl rfl (by decide +kernel)) (pi_list (pv 0)) (blkOk_by (N := ["script", "great", "cell"]) (sc := defScope sBegun) (by decide +kernel))
        (fun _ _ _ _ _ => pg_name (i := 2) scB.nd rfl (Or.inl rfl)) (fun _ _ _ _ _ => pts_one (pt_cmpR op_ge (pe_callB call_abs (by rfl) B.abs (by decide +kernel) (pa_cons (pv 2) pa_nil)) (pe_op op_pow pe_int pe_int) (nomark _)))
        (fun _ _ _ _ _ => pe_op op_sub (pe_callB call_abs (by rfl) B.abs (by decide +kernel) (pa_cons (pv 2) pa_nil)) (pe_op op_pow pe_int pe_int)))
      (pss_one (ps_ret (pe_disp (pps_cons pe_str (pv 1) (pps_cons pe_str (pe_lc (own := [("cell", 2)]) (g := gName 2) rfl scB.nd (pi_list (pv 0)) (blkOk_by (N := ["script", "great", "cell"]) (sc := defScope sBegun) (by decide +kernel))
        (fun _ _ _ _ _ => pg_name (i := 2) scB.nd rfl (Or.inl rfl)) (fun _ _ _ _ _ => pts_nil) (fun _ _ _ _ _ => pe_callB call_abs (by rfl) B.abs (by decide +kernel) (pa_cons (pv 2) pa_nil)))
        (pps_cons pe_str pe_int (pps_cons pe_str pe_int pps_nil)))) (by rfl) (by rfl) (fun z => by cases z) (by decide)))), ?_⟩
    let z : Nat → Int := fun i => (ns[i]?).getD 0
    let m : Nat → Int := fun i => if z i < 0 then -z i else z i
    have g0 : ∀ (i : Nat) (x : V), (ns.map V.int)[i]? = some x → x = V.int (z i) := fun i x hx => by
      rw [List.getElem?_map] at hx
      cases e : ns[i]? with
      | none => rw [e] at hx; cases hx
      | some y =>
        rw [e] at hx
        show x = V.int ((ns[i]?).getD 0)
        rw [e]
        exact (Option.some.inj hx).symm
    have eAbs : ∀ (z : Int) (H1 : Hp) (σ : L2.St), σ[2]? = some (some (V.int z)) → Ev (tCB (fun xs H Q => ∃ i, xs = [V.int i] ∧ Q (.int (if i < 0 then -i else i)) H) (tCons (tVar 2) tNil)) σ H1 (.int (if z < 0 then -z else z)) :=
      fun z H1 σ hz H2 e Q q => ⟨_, hz, z, rfl, q H2 (Ex.refl H2)⟩
    have ePow : ∀ (H1 : Hp) (σ : L2.St), Ev (tOp (rI CPow fun i j => .int (i ^ j.toNat)) (tC (.int 10)) (tC (.int 18))) σ H1 (.int ((10 : Int) ^ (18 : Int).toNat)) :=
      fun H1 σ => ev_op ev_c ev_c (rv_I ⟨by decide, by decide, by decide⟩)
    have hlen : (ns.map V.int).length ≤ 40000 := by rw [List.length_map]; omega
    have hw : ∀ (σ : L2.St) (x : V), wipe ((wipe [some (V.ref a), none, none] [2]).set 2 (some x)) [2] = wipe [some (V.ref a), none, none] [2] := fun _ _ => rfl
    refine q_asgL (el_lcL (f := fun i => decide ((10 : Int) ^ (18 : Int).toNat ≤ m i)) (v := fun i => V.int (m i - (10 : Int) ^ (18 : Int).toNat)) (ev_var rfl) hS hlen (fun _ => rfl) (fun i x H1 e1 hx => ?_) (fun i x H1 e1 hx _ => ?_)) (fun g H1 hg e1 h1 => ?_)
    · have e := g0 i x hx
      subst e
      exact et_test (ev_op (eAbs _ _ _ rfl) (ePow _ _) rv_I0)
    · have e := g0 i x hx
      subst e
      exact ev_op (eAbs _ _ _ rfl) (ePow _ _) rv_I0
    · intro d hd
      refine ⟨_, rfl, ?_⟩
      have e2 : Ex H1 (upd H1 d (.dK [])) := Ex.new hd
      dsimp only [tPairs, tC]
      refine (el_lcL (K := K) (t := tYes) (j := 2) (vs := [2]) (σ := [some (V.ref a), some (V.ref g), none]) (f := fun i => true) (v := fun i => V.int (m i)) (ev_var (i := 0) rfl) (ex_l (e1.trans e2) hS) hlen (fun _ => rfl) (fun i x H1 e1 hx => fun H2 _ Q q => q H2 (Ex.refl H2)) (fun i x H1 e1 hx _ => ?_)) _ (Ex.refl _) _ (fun c H2 hc e3 h2 => ?_)
      · have e := g0 i x hx
        subst e
        exact eAbs _ _ _ rfl
      · refine ⟨e3 d _ upd_same, stK g c 0 0, rfl, by show 4 ≤ 15; decide, ?_⟩
        obtain ⟨gs, eg⟩ := given_ints (n := (ns.map V.int).length) (f := fun i => decide ((10 : Int) ^ (18 : Int).toNat ≤ m i)) (v := fun i => m i - (10 : Int) ^ (18 : Int).toNat)
        obtain ⟨cs, ec⟩ := given_ints (n := (ns.map V.int).length) (f := fun i => true) (v := m)
        have ndg : d ≠ g := (ne_of_none h1 hd).symm
        have ndc : d ≠ c := ne_of_none upd_same hc
        have hg2 : H2 g = some (.lst (gs.map V.int)) := by
          rw [← eg]
          exact e3 g _ (e2 g _ h1)
        have ngc : g ≠ c := ne_of_none (e2 g _ h1) hc
        refine k d g c _ (fresh_back e1 hd) hg (fresh_back (e1.trans e2) hc) ⟨gs, cs, 0, 0, Eq.trans upd_same ?_, Eq.trans (upd_ne ndg.symm) hg2, Eq.trans (upd_ne ndc.symm) (h2.trans (by rw [ec])), Int.le_refl _, Int.le_refl _, ngc⟩ ?_
        · rfl
        · exact Ex.mut ((e1.trans e2).trans e3) (fresh_back e1 hd)

theorem ns12 : ¬ ("great" : Str) = "cells" := by decide +kernel
theorem ns13 : ¬ ("great" : Str) = "left" := by decide +kernel
theorem ns14 : ¬ ("great" : Str) = "turn" := by decide +kernel
theorem ns21 : ¬ ("cells" : Str) = "great" := by decide +kernel
theorem ns23 : ¬ ("cells" : Str) = "left" := by decide +kernel
theorem ns24 : ¬ ("cells" : Str) = "turn" := by decide +kernel
theorem ns31 : ¬ ("left" : Str) = "great" := by decide +kernel
theorem ns32 : ¬ ("left" : Str) = "cells" := by decide +kernel
theorem ns34 : ¬ ("left" : Str) = "turn" := by decide +kernel
theorem ns41 : ¬ ("turn" : Str) = "great" := by decide +kernel
theorem ns42 : ¬ ("turn" : Str) = "cells" := by decide +kernel
theorem ns43 : ¬ ("turn" : Str) = "left" := by decide +kernel
theorem nk12 : ¬ (Sum.inr ("great" : Str) : Key) = Sum.inr ("cells" : Str) := fun e => ns12 (Sum.inr.inj e)
theorem nk13 : ¬ (Sum.inr ("great" : Str) : Key) = Sum.inr ("left" : Str) := fun e => ns13 (Sum.inr.inj e)
theorem nk14 : ¬ (Sum.inr ("great" : Str) : Key) = Sum.inr ("turn" : Str) := fun e => ns14 (Sum.inr.inj e)
theorem nk21 : ¬ (Sum.inr ("cells" : Str) : Key) = Sum.inr ("great" : Str) := fun e => ns21 (Sum.inr.inj e)
theorem nk23 : ¬ (Sum.inr ("cells" : Str) : Key) = Sum.inr ("left" : Str) := fun e => ns23 (Sum.inr.inj e)
theorem nk24 : ¬ (Sum.inr ("cells" : Str) : Key) = Sum.inr ("turn" : Str) := fun e => ns24 (Sum.inr.inj e)
theorem nk31 : ¬ (Sum.inr ("left" : Str) : Key) = Sum.inr ("great" : Str) := fun e => ns31 (Sum.inr.inj e)
theorem nk32 : ¬ (Sum.inr ("left" : Str) : Key) = Sum.inr ("cells" : Str) := fun e => ns32 (Sum.inr.inj e)
theorem nk34 : ¬ (Sum.inr ("left" : Str) : Key) = Sum.inr ("turn" : Str) := fun e => ns34 (Sum.inr.inj e)
theorem nk41 : ¬ (Sum.inr ("turn" : Str) : Key) = Sum.inr ("great" : Str) := fun e => ns41 (Sum.inr.inj e)
theorem nk42 : ¬ (Sum.inr ("turn" : Str) : Key) = Sum.inr ("cells" : Str) := fun e => ns42 (Sum.inr.inj e)
theorem nk43 : ¬ (Sum.inr ("turn" : Str) : Key) = Sum.inr ("left" : Str) := fun e => ns43 (Sum.inr.inj e)
theorem st_great {H : Hp} {d g c : Addr} {l t : Int} (e : H d = some (.dK (stK g c l t))) : DGet H d (.str "great") (some (.ref g)) := by
  have q := DGet.k (k := Sum.inr "great") e
  rw [show valV (stK g c l t) (Sum.inr "great") = some (.ref g) from valV_pos rfl] at q
  exact q
theorem st_cells {H : Hp} {d g c : Addr} {l t : Int} (e : H d = some (.dK (stK g c l t))) : DGet H d (.str "cells") (some (.ref c)) := by
  have q := DGet.k (k := Sum.inr "cells") e
  rw [show valV (stK g c l t) (Sum.inr "cells") = some (.ref c) from (valV_neg nk12).trans (valV_pos rfl)] at q
  exact q
theorem st_left {H : Hp} {d g c : Addr} {l t : Int} (e : H d = some (.dK (stK g c l t))) : DGet H d (.str "left") (some (.int l)) := by
  have q := DGet.k (k := Sum.inr "left") e
  rw [show valV (stK g c l t) (Sum.inr "left") = some (.int l) from (valV_neg nk13).trans ((valV_neg nk23).trans (valV_pos rfl))] at q
  exact q
theorem st_turn {H : Hp} {d g c : Addr} {l t : Int} (e : H d = some (.dK (stK g c l t))) : DGet H d (.str "turn") (some (.int t)) := by
  have q := DGet.k (k := Sum.inr "turn") e
  rw [show valV (stK g c l t) (Sum.inr "turn") = some (.int t) from (valV_neg nk14).trans ((valV_neg nk24).trans ((valV_neg nk34).trans (valV_pos rfl)))] at q
  exact q
theorem st_putL {H : Hp} {d g c : Addr} {l t v : Int} (e : H d = some (.dK (stK g c l t))) : DPut H d (.str "left") (.int v) (upd H d (.dK (stK g c v t))) := by
  have q := DPut.k (k := Sum.inr "left") (v := V.int v) e (by show 4 < sizeLine; decide)
  rw [show putK (stK g c l t) (Sum.inr "left") (V.int v) = stK g c v t by unfold putK stK; simp [ns13, ns23, ns43]] at q
  exact q
theorem st_putT {H : Hp} {d g c : Addr} {l t v : Int} (e : H d = some (.dK (stK g c l t))) : DPut H d (.str "turn") (.int v) (upd H d (.dK (stK g c l v))) := by
  have q := DPut.k (k := Sum.inr "turn") (v := V.int v) e (by show 4 < sizeLine; decide)
  rw [show putK (stK g c l t) (Sum.inr "turn") (V.int v) = stK g c l v by unfold putK stK; simp [ns14, ns24, ns34]] at q
  exact q
def spBlended : Sp := fun vs H Q _ => ∃ (d g c : Addr) (T : Int), vs = [.ref d] ∧ StD H d g c T ∧ T ≤ 1000000 ∧
  ∀ (H' : Hp) (v : Int), StD H' d g c (T + 1) → Kp d g H H' → Q (.int v) H'
theorem scBl : FnScope ["state", "turn", "found", "prime", "blend", "cell"] ["state"] (defScope sBlended) := ⟨rfl, rfl, rfl, by decide +kernel, rfl, by decide +kernel, by decide +kernel⟩
theorem ok_blended {f : Addr} {fd : FuncData} (F : Fun K "_law_blended" "_law_blended" sBlended f fd) (B : DrB mg) : FnOk P w K mg base CX0 1 f fd ["state"] spBlended := by
  refine F.ok scBl (fun vs H Q E h => ?_) (fun cdv A outer s H vs Q E hr h => ?_)
  · obtain ⟨d, g, c, T, rfl, _⟩ := h
    rfl
  · obtain ⟨d, g, c, T, rfl, hst, hT, k⟩ := h
    have hu := hu_of hr
    refine ⟨_, pss_cons (ps_par (i := 1) (j := 2) rfl scBl.nd rfl rfl (by decide) rfl rfl (pa_cons (pe_op op_add (pe_dget hu (pv 0) pe_str (fun _ _ => rfl)) pe_int) (pa_cons pe_int pa_nil)) (by rfl))
      (pss_cons (ps_dput hu (pv 0) pe_str (pv 1) rfl)
      (pss_cons (ps_for PassesOwn.never rfl (pi_list (pe_lst (pa_cons pe_int (pa_cons pe_int (pa_cons pe_int pa_nil))))) (pg_name (i := 3) scBl.nd rfl (Or.inl rfl))
        (pss_cons (ps_set (i := 4) scBl.nd rfl (Or.inl rfl) (pe_op op_add (pe_op op_mul pe_int (pv 1)) (pe_op op_fdiv (pv 3) pe_int)))
        (pss_cons (ps_for PassesOwn.never rfl (pi_list (pe_dget hu (pv 0) pe_str (fun _ _ => rfl))) (pg_name (i := 5) scBl.nd rfl (Or.inl rfl))
          (pss_one (ps_set (i := 4) scBl.nd rfl (Or.inl rfl) (pe_op op_mod (pe_callTy call_int1 (by rfl) B.int (by decide +kernel) (pa_cons (pe_op op_add (pe_op op_add (pe_op op_mul (pv 4) pe_int) (pv 5)) (pv 1)) pa_nil)) (pv 3)))))
        (pss_one (ps_set (i := 2) scBl.nd rfl (Or.inl rfl) (pe_op op_add (pe_op op_mul (pv 2) pe_int) (pe_op op_mod (pe_callTy call_int1 (by rfl) B.int (by decide +kernel) (pa_cons (pe_op op_pow (pv 4) pe_int) pa_nil)) (pv 3))))))))
      (pss_one (ps_ret (pv 2))))), ?_⟩
    obtain ⟨gs, cs, left, turn, hd, hg, hc, t0, t1, ngc⟩ := hst
    have ndg : d ≠ g := ne_of hd hg (by intro q; cases q)
    have ndc : d ≠ c := ne_of hd hc (by intro q; cases q)
    -- turn, found = (state['turn'] + 1, 0); state['turn'] = turn
    refine ⟨_, rfl, d, _, rfl, st_turn hd, _, _, rfl, rfl, _, _, rfl, ?_⟩
    refine ⟨_, rfl, _, rfl, d, _, rfl, st_putT hd, ?_⟩
    refine ⟨by show 3 ≤ sizeLine; decide, fun l hl => ?_⟩
    have hld : l ≠ d := fun e => by rw [e, upd_same] at hl; cases hl
    have hl0 : H l = none := by rw [upd_ne hld] at hl; exact hl
    have hlg : l ≠ g := fun e => by rw [e, hg] at hl0; cases hl0
    have hlc : l ≠ c := fun e => by rw [e, hc] at hl0; cases hl0
    have hdl := Ne.symm hld
    let H1 : Hp := upd (upd H d (.dK (stK g c left (turn + 1)))) l (.lst [V.int 2147482801, V.int 2147482763, V.int 2147482739])
    have hd1 : H1 d = some (.dK (stK g c left (turn + 1))) := Eq.trans (upd_ne hdl) upd_same
    have hg1 : H1 g = some (.lst (gs.map V.int)) := Eq.trans (upd_ne hlg.symm) (Eq.trans (upd_ne ndg.symm) hg)
    have hc1 : H1 c = some (.lst (cs.map V.int)) := Eq.trans (upd_ne hlc.symm) (Eq.trans (upd_ne ndc.symm) hc)
    refine ⟨l, rfl, ⟨_, SqL.of upd_same⟩, for_list (K := K) (a := l) (xs := [V.int 2147482801, V.int 2147482763, V.int 2147482739])
      (fun i σ H' => H' = H1 ∧ ∃ (fo : Int) (v3 v4 v5 : Option V), σ = [some (.ref d), some (.int (turn + 1)), some (.int fo), v3, v4, v5]) ⟨rfl, 0, none, none, none, rfl⟩ (fun i σ H' _ ⟨e, _⟩ => by rw [e]; exact SqL.of upd_same) ?_ ?_⟩
    · rintro i x σ H' hi ⟨rfl, fo, v3, v4, v5, rfl⟩
      obtain ⟨p, rfl, hp0, hp1⟩ : ∃ p : Int, x = V.int p ∧ 0 < p ∧ p < 2147483648 := by
        match i, hi with
        | 0, h => exact ⟨_, (Option.some.inj h).symm, by decide, by decide⟩
        | 1, h => exact ⟨_, (Option.some.inj h).symm, by decide, by decide⟩
        | 2, h => exact ⟨_, (Option.some.inj h).symm, by decide, by decide⟩
        | i + 3, h => simp at h
      -- blend = 39373 * turn + prime // 67
      refine ⟨_, rfl, _, _, rfl, rfl, Or.inl ⟨by decide, by decide⟩, _, rfl, _, _, rfl, rfl, ⟨by decide, by decide⟩, _, _, rfl, rfl, ?_⟩
      -- for cell in state['cells']
      refine ⟨_, rfl, d, _, rfl, st_cells hd1, c, rfl, ⟨_, SqL.of hc1⟩, for_list (K := K) (a := c) (xs := cs.map V.int)
        (fun j σ H' => H' = H1 ∧ ∃ (b : Int) (v5 : Option V), σ = [some (.ref d), some (.int (turn + 1)), some (.int fo), some (.int p), some (.int b), v5] ∧ -(2 ^ 64) < b ∧ b < 2 ^ 64) ⟨rfl, _, v5, rfl, ?_, ?_⟩ (fun i σ H' _ ⟨e, _⟩ => by rw [e]; exact SqL.of hc1) ?_ ?_⟩
      · have h1 : 0 ≤ p / 67 := Int.ediv_nonneg (by omega) (by decide)
        omega
      · have h1 : p / 67 ≤ p := Int.ediv_le_self _ (by omega)
        omega
      · rintro j y σ H' hj ⟨rfl, b, v5, rfl, b0, b1⟩
        obtain ⟨z, rfl⟩ : ∃ z, y = V.int z := by
          rw [List.getElem?_map] at hj
          cases e : cs[j]? with
          | none => rw [e] at hj; cases hj
          | some z => rw [e] at hj; exact ⟨z, (Option.some.inj hj).symm⟩
        -- blend = int(blend * 69621 + cell + turn) % prime
        refine ⟨_, rfl, _, _, rfl, rfl, Or.inr ⟨by decide, by decide⟩, _, rfl, _, _, rfl, rfl, _, rfl, _, _, rfl, rfl, Or.inl ⟨_, rfl, _, rfl, _, _, rfl, rfl, hp0, ?_⟩⟩
        have m0 := Int.emod_nonneg (b * 69621 + z + (turn + 1)) (show p ≠ 0 by omega)
        have m1 := Int.emod_lt_of_pos (b * 69621 + z + (turn + 1)) hp0
        exact ⟨rfl, _, _, rfl, by omega, by omega⟩
      · rintro σ H' ⟨rfl, b, v5, rfl, b0, b1⟩
        -- found = found * 2147483647 + int(blend ** 5) % prime
        refine ⟨_, rfl, _, _, rfl, rfl, Or.inr ⟨by decide, by decide⟩, _, rfl, _, _, rfl, rfl, ⟨by decide, by decide, by omega⟩, Or.inl ⟨_, rfl, _, rfl, _, _, rfl, rfl, hp0, _, _, rfl, rfl, ?_⟩⟩
        exact ⟨rfl, _, _, _, _, rfl⟩
    · rintro σ H' ⟨rfl, fo, v3, v4, v5, rfl⟩
      refine ⟨_, rfl, k H1 fo ⟨gs, cs, left, turn + 1, hd1, hg1, hc1, by omega, by omega, ngc⟩ fun b o nb ng hb => ?_⟩
      have hbl : b ≠ l := ne_of_none hb hl0
      exact Eq.trans (upd_ne hbl) (Eq.trans (upd_ne nb) hb)

theorem dp_ints {H : Hp} : ∀ gs : List Int, DpAll K H (gs.map V.int) (gs.map PyData.int)
  | [] => .nil
  | a :: r => .cons (.int a) (dp_ints r)
theorem depth_ints : ∀ gs : List Int, PyData.depthAll (gs.map PyData.int) = 0
  | [] => rfl
  | a :: r => by
    show max 0 (PyData.depthAll (r.map PyData.int)) = 0
    rw [depth_ints r]
    rfl
theorem canLay_ints : ∀ gs : List Int, PyData.canLayAll0 (gs.map PyData.int) = true
  | [] => by simp [PyData.canLayAll0]
  | a :: r => by
    show PyData.canLayAll0 (PyData.int a :: r.map PyData.int) = true
    unfold PyData.canLayAll0
    rw [canLay_ints r]
    simp [PyData.canLay0]
theorem shaped_ints (gs : List Int) : SeqAt.shaped (.list (gs.map PyData.int)) = true := by
  have h1 : PyData.canLay0 (.list (gs.map PyData.int)) = true := by unfold PyData.canLay0; exact canLay_ints gs
  have h2 : PyData.depth (.list (gs.map PyData.int)) = 1 := by
    show PyData.depthAll (gs.map PyData.int) + 1 = 1
    rw [depth_ints]
  unfold SeqAt.shaped
  rw [h1, h2]
  rfl
theorem eqv_ints_nil (gs : List Int) : PyData.eqv (.list (gs.map PyData.int)) (.list []) = gs.isEmpty := by
  cases gs with
  | nil => simp [PyData.eqv, PyData.eqvAll]
  | cons a r => simp [PyData.eqv, PyData.eqvAll]
def spDraw : Sp := fun vs H Q _ => ∃ (d g c : Addr) (T n : Int), vs = [.ref d, .int n] ∧ StD H d g c T ∧ T ≤ 1000000 ∧ 0 < n ∧ n < 1073741824 ∧
  ∀ (H' : Hp) (v : Int), StD H' d g c (T + 1) → Kp d g H H' → 0 ≤ v → v < n → Q (.int v) H'
theorem scDr : FnScope ["state", "size_here", "found"] ["state", "size_here"] (defScope sDraw) := ⟨rfl, rfl, rfl, by decide +kernel, rfl, by decide +kernel, by decide +kernel⟩
theorem ok_draw {f fB : Addr} {fd fdB : FuncData} (F : Fun K "_law_draw" "_law_draw" sDraw f fd) (B : DrB mg) (FB : Fun K "_law_blended" "_law_blended" sBlended fB fdB) (mgB : mg "_law_blended" = some (.ref fB)) :
    FnOk P w K mg base CX0 2 f fd ["state", "size_here"] spDraw := by
  have GB : FnOk P w K mg base CX0 1 fB fdB ["state"] spBlended := ok_blended FB B
  have bB : Binds K fdB ["state"] [] := FB.binds (ps := ["state"]) fun _ _ _ _ _ _ us hl => match us, hl with | [_], _ => rfl
  refine F.ok scDr (fun vs H Q E h => ?_) (fun cdv A outer s H vs Q E hr h => ?_)
  · obtain ⟨d, g, c, T, n, rfl, _⟩ := h
    rfl
  · obtain ⟨d, g, c, T, n, rfl, hst, hT, hn0, hn1, k⟩ := h
    have hu := hu_of hr
    refine ⟨_, pss_cut (ps_if (pt_cmpR op_eq (pe_dget hu (pv 0) pe_str (fun _ _ => rfl)) pe_int (nomark _))
        (pss_one (ps_dput hu (pv 0) pe_str (pe_ifExp (pt_cmpR (op_neD hr.units) (pe_dget hu (pv 0) pe_str (fun _ _ => rfl)) (pe_lst pa_nil) (nomark _))
          (pe_bm PySem.F.plainAttrs_list PySem.F.slot_list_pop PySem.F.type_list_pop mt_popAt (pe_dget hu (pv 0) pe_str (fun _ _ => rfl)) (pa_cons pe_int pa_nil))
          (pe_call GB hr rfl mgB FB.kp bB .nil pass0 (pa_cons (pv 0) pa_nil))) rfl)) pss_nil)
      (pss_cons (ps_set (i := 2) scDr.nd rfl (Or.inl rfl) (pe_op op_mod (pe_callTy call_int1 (by rfl) B.int (by decide +kernel) (pa_cons (pe_dget hu (pv 0) pe_str (fun _ _ => rfl)) pa_nil)) (pv 1)))
      (pss_cons (ps_dput hu (pv 0) pe_str (pe_op op_fdiv (pe_dget hu (pv 0) pe_str (fun _ _ => rfl)) (pv 1)) rfl)
      (pss_one (ps_ret (pv 2))))), ?_⟩
    obtain ⟨gs, cs, left, turn, hd, hg, hc, t0, t1, ngc⟩ := hst
    have ndg : d ≠ g := ne_of hd hg (by intro q; cases q)
    have ndc : d ≠ c := ne_of hd hc (by intro q; cases q)
    refine ⟨fun σ H' => σ = [some (.ref d), some (.int n), none] ∧ Kp d g H H' ∧ ∃ (gs' cs' : List Int) (left' turn' : Int), H' d = some (.dK (stK g c left' turn')) ∧ H' g = some (.lst (gs'.map V.int)) ∧ H' c = some (.lst (cs'.map V.int)) ∧ 0 ≤ turn' ∧ turn' ≤ T + 1, ?_, ?_⟩
    · refine ⟨_, rfl, d, _, rfl, st_left hd, rfl, _, rfl, ?_⟩
      refine ite2 (fun _ => ?_) (fun _ => ⟨rfl, fun b o _ _ h => h, gs, cs, left, turn, hd, hg, hc, t0, by omega⟩)
      refine ⟨_, rfl, d, _, rfl, st_great hd, Nat.zero_le _, fun l hl => ?_⟩
      have hlg : l ≠ g := fun e => by rw [e, hg] at hl; cases hl
      have hld : l ≠ d := fun e => by rw [e, hd] at hl; cases hl
      have hlc : l ≠ c := fun e => by rw [e, hc] at hl; cases hl
      have hd1 : upd H l (.lst []) d = some (.dK (stK g c left turn)) := Eq.trans (upd_ne hld.symm) hd
      have hg1 : upd H l (.lst []) g = some (.lst (gs.map V.int)) := Eq.trans (upd_ne hlg.symm) hg
      have hc1 : upd H l (.lst []) c = some (.lst (cs.map V.int)) := Eq.trans (upd_ne hlc.symm) hc
      have kp1 : ∀ b o, H b = some o → upd H l (.lst []) b = some o := fun b o hb => Eq.trans (upd_ne (ne_of_none hb hl)) hb
      refine ⟨_, _, Dp.lst (SqL.of hg1) (dp_ints gs), Dp.lst (SqL.of upd_same) .nil, shaped_ints gs, shaped_ints [], _, rfl, ?_⟩
      rw [eqv_ints_nil]
      cases gs with
      | nil =>
        refine iteF ?_
        refine ⟨_, rfl, d, g, c, T, rfl, ⟨[], cs, left, turn, hd1, hg1, hc1, t0, t1, ngc⟩, hT, fun H2 v st2 k2 => ?_⟩
        obtain ⟨gs2, cs2, left2, turn2, hd2, hg2, hc2, u0, u1, _⟩ := st2
        refine ⟨_, rfl, d, _, rfl, st_putL hd2, rfl, fun b o nb ng hb => ?_, gs2, cs2, v, turn2, upd_same, Eq.trans (upd_ne ndg.symm) hg2, Eq.trans (upd_ne ndc.symm) hc2, u0, u1⟩
        exact Eq.trans (upd_ne nb) (k2 b o nb ng (kp1 b o hb))
      | cons z r =>
        refine iteT ?_
        refine ⟨_, rfl, d, _, rfl, st_great hd1, Or.inl ⟨rfl, _, SqL.of hg1⟩, g, _, 0, 0, V.int z, rfl, rfl, hg1, by decide, by decide, ?_, rfl, ?_⟩
        · show seqIndex? 0 (V.int z :: r.map V.int).length = some 0
          rw [List.length_cons]
          simp [seqIndex?]
        · refine ⟨_, rfl, d, _, rfl, st_putL (Eq.trans (upd_ne ndg) hd1), rfl, fun b o nb ng hb => ?_, r, cs, z, turn, upd_same, Eq.trans (upd_ne ndg.symm) upd_same, Eq.trans (upd_ne ndc.symm) (Eq.trans (upd_ne ngc.symm) hc1), t0, by omega⟩
          exact Eq.trans (upd_ne nb) (Eq.trans (upd_ne ng) (kp1 b o hb))
    · rintro σ H1 ⟨rfl, k1, gs1, cs1, left1, turn1, hd1, hg1, hc1, u0, u1⟩
      -- found = int(state['left']) % size_here; state['left'] = state['left'] // size_here; return found
      refine ⟨_, rfl, d, _, rfl, st_left hd1, Or.inl ⟨_, rfl, _, rfl, _, _, rfl, rfl, hn0, ?_⟩⟩
      refine ⟨_, rfl, d, _, rfl, st_left hd1, _, rfl, _, _, rfl, rfl, ⟨hn0, hn1⟩, _, rfl, d, _, rfl, st_putL hd1, ?_⟩
      refine ⟨_, rfl, k _ _ ⟨gs1, cs1, _, turn1, upd_same, Eq.trans (upd_ne ndg.symm) hg1, Eq.trans (upd_ne ndc.symm) hc1, u0, u1, ngc⟩ (fun b o nb ng hb => Eq.trans (upd_ne nb) (k1 b o nb ng hb)) (Int.emod_nonneg _ (by omega)) (Int.emod_lt_of_pos _ hn0)⟩
def spPick : Sp := fun vs H Q _ => ∃ (d g c a : Addr) (T : Int) (xs : List V), vs = [.ref d, .ref a] ∧ StD H d g c T ∧ T ≤ 1000000 ∧ H a = some (.lst xs) ∧ a ≠ g ∧ 0 < xs.length ∧ xs.length < 1000000 ∧
  ∀ (H' : Hp) (x : V), StD H' d g c (T + 1) → Kp d g H H' → x ∈ xs → Q x H'
theorem scPk : FnScope ["state", "several"] ["state", "several"] (defScope sPick) := ⟨rfl, rfl, rfl, by decide +kernel, rfl, by decide +kernel, by decide +kernel⟩
theorem ok_pick {f fD fB : Addr} {fd fdD fdB : FuncData} (F : Fun K "_law_pick" "_law_pick" sPick f fd) (B : DrB mg) (FB : Fun K "_law_blended" "_law_blended" sBlended fB fdB) (mgB : mg "_law_blended" = some (.ref fB))
    (FD : Fun K "_law_draw" "_law_draw" sDraw fD fdD) (mgD : mg "_law_draw" = some (.ref fD)) : FnOk P w K mg base CX0 3 f fd ["state", "several"] spPick := by
  have GD : FnOk P w K mg base CX0 2 fD fdD ["state", "size_here"] spDraw := ok_draw FD B FB mgB
  have bD : Binds K fdD ["state", "size_here"] [] := FD.binds (ps := ["state", "size_here"]) fun _ _ _ _ _ _ us hl => match us, hl with | [_, _], _ => rfl
  refine F.ok scPk (fun vs H Q E h => ?_) (fun cdv A outer s H vs Q E hr h => ?_)
  · obtain ⟨d, g, c, a, T, xs, rfl, _⟩ := h
    rfl
  · obtain ⟨d, g, c, a, T, xs, rfl, hst, hT, ha, nag, l0, l1, k⟩ := h
    refine ⟨_, pss_one (ps_ret (pe_ix ix_list (pv 1) (pe_call GD hr rfl mgD FD.kp bD .nil pass0 (pa_cons (pv 0) (pa_cons (pe_callB call_len_seq (by rfl) B.len PySem.boot_len (pa_cons (pv 1) pa_nil)) pa_nil))) (fun _ _ => rfl))), ?_⟩
    have nad : a ≠ d := by
      obtain ⟨_, _, _, _, hd, _⟩ := hst
      exact ne_of ha hd (by intro q; cases q)
    refine ⟨_, rfl, _, rfl, _, rfl, a, xs, rfl, Or.inl (SqL.of ha), d, g, c, T, (xs.length : Int), rfl, hst, hT, by omega, by omega, fun H1 v st1 k1 v0 v1 => ?_⟩
    obtain ⟨j, rfl⟩ : ∃ j : Nat, v = (j : Int) := ⟨v.toNat, by omega⟩
    have hj : j < xs.length := by omega
    refine ⟨a, xs, _, xs[j], rfl, rfl, SqL.of (k1 a _ nad nag ha), atI_nat (List.getElem?_eq_getElem hj), k _ _ st1 k1 (List.getElem_mem hj)⟩
end
end My
/-! repr of data; a law's def, whose frame stands below no repr -/
namespace L2
open PySem PySem.Spec PyProof.Rows
def rReprD (K : PySem.W.Frag) : List V → Hp → VK → Prop := fun xs H Q => ∃ (a : Addr) (d : PyData), xs = [.ref a] ∧ Dp K H (.ref a) d ∧ d.showable = true ∧ d.hasDict = false ∧ d.depth ≤ 32 ∧ d.shown.length ≤ sizeLine ∧ Q (.str d.shown) H
theorem call_reprD {X : Cx} (hg : X.A.guards = some []) (hu : X.A.units + 64 < cLine) : CallR X (.builtin "repr") (rReprD X.K) := by
  intro pins s σ H xs us Q I r h
  obtain ⟨a, d, rfl, hd, h1, h2, h3, h4, q⟩ := h
  obtain ⟨u, rfl, ru⟩ := vals1 r
  obtain ⟨as, hr⟩ := Dp.reads I d _ _ hd ru
  cases ru
  exact repr_of_reads' hr h1 (fun z => by rw [h2] at z; cases z) hg (by omega) (fun _ _ e => e) (fun h' u tk hk => ⟨.str d.shown, H, I.kept (t' := tk) hk, ⟨u, rfl⟩, q⟩) h4
/-- a def's promise, kept where no repr is under way -/
structure FnOkG (P : Program) (w : World) (K : PySem.W.Frag) (mg : Str → Option Value) (base : Heap) (CX : CXT) (k : Nat) (f : Addr) (fd : FuncData) (ps : List Str) (sp : Sp) : Prop where
  len : ∀ vs H Q E, sp vs H Q E → vs.length = ps.length
  run : ∀ (A : Around) (outer : List Env) (s : Shared) (H : Hp) (args : Args) (us : List Value) (vs : List V) (Q : VK) (E : XK), A.guards = some [] → Room k A → Env0 P w K mg base A outer s H → BindsTo s fd args (ps.zip us) → Vals vs us → sp vs H Q E →
    codeAny (model P w) A (.call (.ref f) args) (CR CX outer P w H s Q E) s
section
variable {P : Program} {w : World} {K : PySem.W.Frag} {mg : Str → Option Value} {base : Heap} {CX : CXT}
/-- THE RULE for such a def -/
theorem okG {x qual : Str} {params : Arguments} {body : List Stmt} {scope : Scope} {f : Addr} {fd : FuncData} {N ps : List Str} {k : Nat} {sp : Sp}
    (F : ∃ (oc : Value) (od : Option Addr) (dV kV doc pm : Value) (an : Option Addr) (cdv ct : Value) (osl : Array (Option Value)), fd = PySem.W.fnOf x qual params body scope dV kV doc pm an cdv ct ∧ K.lookup f = some ⟨oc, od, .func fd, osl⟩ ∧ PySem.W.codeIn K cdv qual = true)
    (S : FnScope N ps scope) (len : ∀ vs H Q E, sp vs H Q E → vs.length = ps.length)
    (hbody : ∀ (cdv : Value) (A : Around) (outer : List Env) (s : Shared) (H : Hp) (vs : List V) (Q : VK) (E : XK), A.guards = some [] → Room k (A.deeper (envOfC qual scope s.heap.objs.size f cdv)) → sp vs H Q E →
      ∃ t, PSs (cxOf CX P w K mg base N qual scope f cdv A outer s H E) body t ∧ t { nx := fun _ H' => Q .non H', rt := Q } (start N vs) H) : FnOkG P w K mg base CX (k + 1) f fd ps sp := by
  obtain ⟨oc, od, dV, kV, doc, pm, an, cdv, ct, osl, rfl, lk, hcd⟩ := F
  refine ⟨len, fun A outer s H args us vs Q E hg hr e0 hb rv hsp => ?_⟩
  have hl := len _ _ _ _ hsp
  have hkeep : ∀ b o, base.get? b = some o → s.heap.get? b = some o := fun b o e => (e0.bs b o e).1
  have KX : K.In s.heap := e0.mod.kin.keeps hkeep
  have lim : s.heap.NoLimit := e0.mod.nolimit.keeps hkeep
  refine codeAny_call_function hr.depth (KX _ _ lk) rfl S.co S.gen rfl (PySem.W.codeRec_of KX hcd) (hb _ _ _ _ ?_)
  refine wpAny_newFunctionEnv_cells S.kind (fun ⟨n, v⟩ hy => ?_) fun env he s1 ic => ?_
  · rcases S.par n (List.of_mem_zip hy).1 with q | q
    · exact .inl q
    · exact .inr ⟨q, PySem.W.cellsFrom_some _ _ _ (.inl q)⟩
  · subst he
    refine ⟨lim.keeps ic.toInCall.keep, codeAny_func ?_⟩
    obtain ⟨t, ht, hq⟩ := hbody cdv A outer s H vs Q E hg (hr.deeper _) hsp
    refine wpAny_mono (ht.run [] s1 (start N vs) H _ (inv_start S hr.hd e0 hl rv ic) hq) (fun fl s' hs => ?_) fun e s' hs => hs
    cases fl with
    | ret u =>
      obtain ⟨v, σ', H', J, r', q⟩ := hs
      exact ⟨v, H', J.os, J.bare, J.base, J.hok, r', q⟩
    | next =>
      obtain ⟨σ', H', J, q⟩ := hs
      exact ⟨.non, H', J.os, J.bare, J.base, J.hok, rfl, q⟩
    | brk => exact False.elim (let ⟨_, _, _, q⟩ := hs; q)
    | cont => exact False.elim (let ⟨_, _, _, q⟩ := hs; q)
end
/-- the law's call from the promise of its def -/
theorem law_callG {P : Program} {w : World} {K : PySem.W.Frag} {mg mb : Str → Option Value} {CX : CXT} {k : Nat} {fa a : Addr} {fd : FuncData} {x : Str} {sp : Sp} {s₁ : Shared} {vs : List Value} {ns : List Int}
    (KX : K.In s₁.heap) (hns : s₁.heap.Ns mainGlobals mg) (hb : s₁.heap.Ns builtinsNs mb) (hbb : ∀ x : Str, x ≠ "__name__" → mb x = bootBuiltins x) (hlim : s₁.heap.NoLimit) (hg : s₁.gens = #[])
    (ha : s₁.heap.get? a = some { cls := .type "list", data := .seq vs.toArray }) (hi : IntsAre vs ns) (hl : ns.length ≤ sizeLine) (hr : Room k callerA)
    (F : ∀ base : Heap, K.In base → base.Ns mainGlobals mg → FnOkG P w K mg base CX k fa fd [x] sp) (hbind : ∀ (s : Shared) (u : Value), BindsTo s fd ⟨[u], []⟩ [(x, u)])
    (hsp : ∀ H : Hp, Only H → SqL K H a (ns.map V.int) → sp [.ref a] H (fun v _ => v = .bl true) fun _ _ _ => False)
    (hCX : ∀ H e s', CX [] H s₁ (fun _ _ _ => False) e s' → False) :
    codeAny (model P w) callerA (.call (.ref fa) ⟨[.ref a], []⟩) (fun r s' => r = .ok (.ret (.bool true)) ∧ OldK s₁.heap s'.heap ∧ s'.os = s₁.os ∧ AllBare s'.gens) s₁ := by
  have lenV := hi.length
  have rv := vals_ints hi
  suffices core : ∃ H : Hp, Only H ∧ SqL K H a (ns.map V.int) ∧ HOk P w H s₁.heap ∧ (∀ b, H b ≠ none → b = a) ∧ (H a ≠ none → K.lookup a = none) by
    obtain ⟨H, hO, hS, hok, hA, hK⟩ := core
    have back : ∀ {b : Addr} {o : Obj}, s₁.heap.get? b = some o → H b = none → (hidT s₁.heap H).get? b = some o := fun e n => hidT_get e n
    have noD : ∀ {b : Addr} {o : Obj} {es : Array DictEntry} {ep : Nat}, s₁.heap.get? b = some o → o.data = .dict es ep → H b = none := fun {b o es ep} e d => by
      cases q : H b with
      | none => rfl
      | some u =>
        obtain rfl := hA b (by rw [q]; simp)
        rw [ha] at e
        cases e
        cases d
    have nsD : ∀ {b : Addr} {m : Str → Option Value}, s₁.heap.Ns b m → (hidT s₁.heap H).Ns b m := fun ⟨o, es, ep, e, d, r⟩ => ⟨o, es, ep, back e (noD e d), d, r⟩
    have hKb : K.In (hidT s₁.heap H) := fun b o e => back (KX b o e) (by
      cases q : H b with
      | none => rfl
      | some u =>
        obtain rfl := hA b (by rw [q]; simp)
        rw [hK (by rw [q]; simp)] at e
        cases e)
    have hM : Mod K mg (hidT s₁.heap H) := ⟨hKb, nsD hns, ⟨mb, nsD hb, hbb⟩, let ⟨mc, h1, h2⟩ := hlim; ⟨mc, nsD h1, h2⟩⟩
    have nil : ∀ b : Addr, b ∉ ([] : List Addr) := fun b => by simp
    have e0 : Env0 P w K mg (hidT s₁.heap H) callerA [] s₁ H := ⟨rfl, hM, fun b o e => of_hidT e, Nat.le_of_eq (hidT_size _ _), trivial, fun b z => absurd z (nil b), hok, .of_eq hg⟩
    refine codeAny_mono ((F _ hKb (nsD hns)).run callerA [] s₁ H ⟨[.ref a], []⟩ [.ref a] [.ref a] _ _ rfl hr e0 (hbind s₁ (.ref a)) (.cons rfl .nil) (hsp H hO hS)) fun r s' h => ?_
    cases r with
    | error e => exact (hCX H e s' h).elim
    | ok fl =>
    cases fl with
    | ret u =>
      obtain ⟨v, H', os, bare, un, hok', r', q⟩ := h
      have q' : v = .bl true := q
      subst q'
      obtain rfl : u = Value.bool true := r'
      refine ⟨rfl, OldK.of_keep fun b o e => ?_, os, bare⟩
      cases q : H b with
      | none => exact un.keep b o e q (fun z => nil b z) (nil b)
      | some u =>
        rcases hO b with z | ⟨ob, xs, z⟩
        · rw [q] at z
          cases z
        · obtain ⟨e1, _⟩ := hok b _ z
          obtain ⟨e2, _⟩ := hok' b _ (un.frzs b ob _ z)
          rw [e] at e1
          cases e1
          exact e2
    | next => exact False.elim h
    | brk => exact False.elim h
    | cont => exact False.elim h
  cases hk : K.lookup a with
  | some o =>
    have e := KX a o hk
    rw [ha] at e
    cases e
    exact ⟨fun _ => none, fun _ => .inl rfl, .inr ⟨_, vs.toArray, _, hk, rfl, rfl, rfl, by rw [List.size_toArray, lenV]; exact hl, by simpa using rv⟩, fun b u z => by { have z' : (none : Option HO) = some u := z; cases z' }, fun b z => absurd rfl z, fun z => absurd rfl z⟩
  | none =>
    refine ⟨fun b => if b = a then some (.frz { cls := .type "list", data := .seq vs.toArray } (.lst (ns.map V.int))) else none, fun b => ?_, .inl (.inr ⟨{ cls := .type "list", data := .seq vs.toArray }, if_pos rfl⟩), fun b u z => ?_, fun b z => ?_, fun _ => rfl⟩
    · by_cases q : b = a
      · exact .inr ⟨_, _, if_pos q⟩
      · exact .inl (if_neg q)
    · by_cases q : b = a
      · have z' := (if_pos q).symm.trans z
        cases z'
        subst q
        exact ⟨ha, by rw [List.length_map]; exact hl, vs, _, rv, ha⟩
      · have z' := (if_neg q).symm.trans z
        cases z'
    · by_cases q : b = a
      · exact q
      · exact absurd (if_neg q) z
/-- a law's end over a head by facts -/
theorem walk_ofG {l : PySem.W.OpenLaw} {n k : Nat} {q : Program} {loose : List Str} {XP : (Str → Option Value) → Heap → Prop} {YP : World → Heap → Prop} {d : DefRec} {CX : CXT} {x : Str}
    (hn : l.most = some n) (hn2 : n ≤ sizeLine) (hdf : d.params.defaults = []) (hr : Room k callerA)
    (F : ∀ (w : World) (mg : Str → Option Value) (fa : Addr) (h : Heap), YP w h → h.Ns mainGlobals mg → mg d.name = some (.ref fa) →
      ∃ (K : PySem.W.Frag) (fd : FuncData) (sp : Sp), K.In h ∧ (∀ (s : Shared) (u : Value), BindsTo s fd ⟨[u], []⟩ [(x, u)]) ∧
        (∀ (H : Hp) (a : Addr) (ns : List Int), ns.length ≤ n → Only H → SqL K H a (ns.map V.int) → sp [.ref a] H (fun v _ => v = .bl true) fun _ _ _ => False) ∧
        ∀ base : Heap, K.In base → base.Ns mainGlobals mg → FnOkG l.prog w K mg base CX k fa fd [x] sp)
    (hCX : ∀ (H : Hp) (s : Shared) (e : Value) (s' : Shared), CX [] H s (fun _ _ _ => False) e s' → False) :
    PySem.W.WalkO q loose XP YP l.row.toRowW d [] (fun f vs => PySem.call f vs) := by
  refine Att.attach_call hn hdf fun w s₀ s₁ mg mb fa o pm cd doc a vs ns G Y ho hd hcd hmg hobj hints hlen hg => ?_
  obtain ⟨K, fd, sp, KX, hb, hsp, hF⟩ := F w mg fa _ Y G.T.g hmg
  exact law_callG KX G.T.g G.T.b G.T.builtins G.T.nolimit hg hobj hints (Nat.le_trans hlen hn2) hr hF hb (fun H hO hS => hsp H a ns hlen hO hS) fun H e s' => hCX H s₁ e s'
end L2
namespace My
open PySem PySem.Spec L2 Evl He
abbrev sFlags : Stmt := topS 67
theorem el_catV {l : Addr} {xs ys : List V} {ta tb : TE} {σ : L2.St} {H : Hp} (ha : Ev ta σ H (.ref l)) (hl : H l = some (.lst xs)) (hb : EvL tb σ H ys) (hz : xs.length + ys.length ≤ sizeLine) : EvL (tOp rCat ta tb) σ H (xs ++ ys) :=
  fun H1 e Q q => ha H1 e _ fun H2 e2 => hb H2 (e.trans e2) _ fun p H3 hp e3 h3 => ⟨l, p, xs, ys, rfl, rfl, e3 _ _ (e2 _ _ (e _ _ hl)), h3, hz, fun r hr => q r _ (fresh_back (e2.trans e3) hr) ((e2.trans e3).trans (Ex.new hr)) upd_same⟩
theorem ErrV.up {H H' : Hp} {a C : Addr} (e : Ex H H') (h : ErrV H a C) : ErrV H' a C := by
  rcases h with h | ⟨dd, fs, h1, h2⟩
  · exact .inl (e _ _ h)
  · exact .inr ⟨dd, fs, e _ _ h1, e _ _ h2⟩
/-- the flags of an error of the class C: which kinds it is of -/
def spFlags (K : PySem.W.Frag) : Sp := fun vs H Q _ => ∃ (a C : Addr) (f : Str → Bool), vs = [.ref a] ∧ ErrV H a C ∧ ExcC K C ∧ (∀ y ∈ kindN, PySem.W.kitOne K (.ref C) (.ref (ga K y)) = some (f y)) ∧
  ∀ (l : Addr) (H' : Hp), H l = none → Ex H H' → H' l = some (.lst (kindN.map fun y => V.bl (f y))) → Q (.ref l) H'
theorem scFl : FnScope ["error", "found"] ["error"] (defScope sFlags) := ⟨rfl, rfl, rfl, by decide +kernel, rfl, by decide +kernel, by decide +kernel⟩
abbrev tI (K : PySem.W.Frag) (y : Str) : TE := tCB (rIsV K) (tCons (tVar 0) (tCons (tC (.ref (ga K y))) tNil))
section
variable {P : Program} {w : World} {K : PySem.W.Frag} {mg : Str → Option Value} {base : Heap}
theorem pI {X : Cx} {y : Str} {p0 p1 p2 pos : Pos} (F : Facts X.K X.mg) (hI : X.mg "isinstance" = none) (hX : X.N[0]? = some ("error" : Str)) (hV : Vis X.env.scope "error") (hgI : Gl X "isinstance") (hg : Gl X y) (hy : y ∈ kindN) (hd : (y == ("__debug__" : Str)) = false)
    (h1 : starEach [Expr.Name "error" p1, .Name y p2] X.env = (false, eval (.Name "error" p1) X.env) :: starEach [.Name y p2] X.env) (h2 : starEach [Expr.Name y p2] X.env = (false, eval (.Name y p2) X.env) :: starEach [] X.env) (h3 : (backTo pos (starEach [Expr.Name y p2] X.env)).any (·.1) = false) :
    PE X (.Call (.Name "isinstance" p0) [.Name "error" p1, .Name y p2] [] pos) (tI X.K y) :=
  pe_callB call_isV hgI hI (by decide +kernel) (pa_cons (pe_var hX hV) (pa_cons (pe_glob hg (F.gl y (List.mem_cons_of_mem _ hy)) rfl hd) pa_nil h2) h1) (by decide +kernel) (by decide +kernel) h1 h3
theorem ok_flags {f : Addr} {fd : FuncData} (F : Fun K "_law_k08_flags" "_law_k08_flags" sFlags f fd) (G : Facts K mg) (gI : mg "isinstance" = none) : FnOk P w K mg base CX0 1 f fd ["error"] (spFlags K) := by
  refine F.ok scFl (fun vs H Q E h => ?_) (fun cdv A outer s H vs Q E hr h => ?_)
  · obtain ⟨a, C, f, rfl, _⟩ := h
    rfl
  · obtain ⟨a, C, g, rfl, hE, hT, hk, k⟩ := h
    have I : ∀ {y : Str} {p0 p1 p2 pos : Pos}, Gl ((cxOf CX0 P w K mg base ["error", "found"] "_law_k08_flags" (defScope sFlags) f cdv A outer s H E).nox) y → y ∈ kindN → (y == ("__debug__" : Str)) = false → PE ((cxOf CX0 P w K mg base ["error", "found"] "_law_k08_flags" (defScope sFlags) f cdv A outer s H E).nox) (.Call (.Name "isinstance" p0) [.Name "error" p1, .Name y p2] [] pos) (tI K y) :=
      fun hg hy hd => pI G gI rfl (Or.inl rfl) rfl hg hy hd rfl rfl rfl
    refine ⟨_, pss_cons (ps_set (i := 1) scFl.nd rfl (Or.inl rfl) (pe_lst (pa_cons (I (by rfl) (by decide +kernel) (by decide +kernel)) (pa_cons (I (by rfl) (by decide +kernel) (by decide +kernel)) (pa_cons (I (by rfl) (by decide +kernel) (by decide +kernel)) (pa_cons (I (by rfl) (by decide +kernel) (by decide +kernel)) pa_nil))))))
      (pss_cons (ps_set (i := 1) scFl.nd rfl (Or.inl rfl) (pe_op op_cat (pv 1) (pe_lst (pa_cons (I (by rfl) (by decide +kernel) (by decide +kernel)) (pa_cons (I (by rfl) (by decide +kernel) (by decide +kernel)) (pa_cons (I (by rfl) (by decide +kernel) (by decide +kernel)) (pa_cons (I (by rfl) (by decide +kernel) (by decide +kernel)) pa_nil)))))))
      (pss_cons (ps_set (i := 1) scFl.nd rfl (Or.inl rfl) (pe_op op_cat (pv 1) (pe_lst (pa_cons (I (by rfl) (by decide +kernel) (by decide +kernel)) (pa_cons (I (by rfl) (by decide +kernel) (by decide +kernel)) (pa_cons (I (by rfl) (by decide +kernel) (by decide +kernel)) (pa_cons (I (by rfl) (by decide +kernel) (by decide +kernel)) pa_nil)))))))
      (pss_cons (ps_set (i := 1) scFl.nd rfl (Or.inl rfl) (pe_op op_cat (pv 1) (pe_lst (pa_cons (I (by rfl) (by decide +kernel) (by decide +kernel)) (pa_cons (I (by rfl) (by decide +kernel) (by decide +kernel)) (pa_cons (I (by rfl) (by decide +kernel) (by decide +kernel)) (pa_cons (I (by rfl) (by decide +kernel) (by decide +kernel)) pa_nil)))))))
      (pss_cons (ps_set (i := 1) scFl.nd rfl (Or.inl rfl) (pe_op op_cat (pv 1) (pe_lst (pa_cons (I (by rfl) (by decide +kernel) (by decide +kernel)) (pa_cons (I (by rfl) (by decide +kernel) (by decide +kernel)) (pa_cons (I (by rfl) (by decide +kernel) (by decide +kernel)) (pa_cons (I (by rfl) (by decide +kernel) (by decide +kernel)) pa_nil)))))))
      (pss_cons (ps_set (i := 1) scFl.nd rfl (Or.inl rfl) (pe_op op_cat (pv 1) (pe_lst (pa_cons (I (by rfl) (by decide +kernel) (by decide +kernel)) (pa_cons (I (by rfl) (by decide +kernel) (by decide +kernel)) (pa_cons (I (by rfl) (by decide +kernel) (by decide +kernel)) (pa_cons (I (by rfl) (by decide +kernel) (by decide +kernel)) pa_nil)))))))
      (pss_cons (ps_set (i := 1) scFl.nd rfl (Or.inl rfl) (pe_op op_cat (pv 1) (pe_lst (pa_cons (I (by rfl) (by decide +kernel) (by decide +kernel)) (pa_cons (I (by rfl) (by decide +kernel) (by decide +kernel)) (pa_cons (I (by rfl) (by decide +kernel) (by decide +kernel)) (pa_cons (I (by rfl) (by decide +kernel) (by decide +kernel)) pa_nil)))))))
      (pss_cons (ps_set (i := 1) scFl.nd rfl (Or.inl rfl) (pe_op op_cat (pv 1) (pe_lst (pa_cons (I (by rfl) (by decide +kernel) (by decide +kernel)) (pa_cons (I (by rfl) (by decide +kernel) (by decide +kernel)) (pa_cons (I (by rfl) (by decide +kernel) (by decide +kernel)) (pa_cons (I (by rfl) (by decide +kernel) (by decide +kernel)) pa_nil)))))))
      (pss_cons (ps_set (i := 1) scFl.nd rfl (Or.inl rfl) (pe_op op_cat (pv 1) (pe_lst (pa_cons (I (by rfl) (by decide +kernel) (by decide +kernel)) (pa_cons (I (by rfl) (by decide +kernel) (by decide +kernel)) (pa_cons (I (by rfl) (by decide +kernel) (by decide +kernel)) (pa_cons (I (by rfl) (by decide +kernel) (by decide +kernel)) pa_nil)))))))
      (pss_cons (ps_set (i := 1) scFl.nd rfl (Or.inl rfl) (pe_op op_cat (pv 1) (pe_lst (pa_cons (I (by rfl) (by decide +kernel) (by decide +kernel)) (pa_cons (I (by rfl) (by decide +kernel) (by decide +kernel)) (pa_cons (I (by rfl) (by decide +kernel) (by decide +kernel)) (pa_cons (I (by rfl) (by decide +kernel) (by decide +kernel)) pa_nil)))))))
      (pss_cons (ps_set (i := 1) scFl.nd rfl (Or.inl rfl) (pe_op op_cat (pv 1) (pe_lst (pa_cons (I (by rfl) (by decide +kernel) (by decide +kernel)) (pa_cons (I (by rfl) (by decide +kernel) (by decide +kernel)) (pa_cons (I (by rfl) (by decide +kernel) (by decide +kernel)) (pa_cons (I (by rfl) (by decide +kernel) (by decide +kernel)) pa_nil)))))))
      (pss_cons (ps_set (i := 1) scFl.nd rfl (Or.inl rfl) (pe_op op_cat (pv 1) (pe_lst (pa_cons (I (by rfl) (by decide +kernel) (by decide +kernel)) (pa_cons (I (by rfl) (by decide +kernel) (by decide +kernel)) (pa_cons (I (by rfl) (by decide +kernel) (by decide +kernel)) (pa_cons (I (by rfl) (by decide +kernel) (by decide +kernel)) pa_nil)))))))
      (pss_cons (ps_set (i := 1) scFl.nd rfl (Or.inl rfl) (pe_op op_cat (pv 1) (pe_lst (pa_cons (I (by rfl) (by decide +kernel) (by decide +kernel)) (pa_cons (I (by rfl) (by decide +kernel) (by decide +kernel)) (pa_cons (I (by rfl) (by decide +kernel) (by decide +kernel)) (pa_cons (I (by rfl) (by decide +kernel) (by decide +kernel)) pa_nil)))))))
      (pss_cons (ps_set (i := 1) scFl.nd rfl (Or.inl rfl) (pe_op op_cat (pv 1) (pe_lst (pa_cons (I (by rfl) (by decide +kernel) (by decide +kernel)) (pa_cons (I (by rfl) (by decide +kernel) (by decide +kernel)) (pa_cons (I (by rfl) (by decide +kernel) (by decide +kernel)) (pa_cons (I (by rfl) (by decide +kernel) (by decide +kernel)) pa_nil)))))))
      (pss_one (ps_ret (pe_op op_cat (pv 1) (pe_lst (pa_cons (I (by rfl) (by decide +kernel) (by decide +kernel)) (pa_cons (I (by rfl) (by decide +kernel) (by decide +kernel)) (pa_cons (I (by rfl) (by decide +kernel) (by decide +kernel)) (pa_cons (I (by rfl) (by decide +kernel) (by decide +kernel)) pa_nil))))))))))))))))))))), ?_⟩
    have ev : ∀ (H' : Hp), Ex H H' → ∀ (y : Str), y ∈ kindN → ∀ (z : Option V), Ev (tI K y) [some (.ref a), z] H' (.bl (g y)) := fun H' e y hy z => ev_cb (ea_cons (ev_var rfl) (ea_cons ev_c ea_nil)) fun H1 e1 Q q => ⟨a, C, _, _, _, rfl, ErrV.up (e.trans e1) hE, hT, .own _, hk y hy, q H1 (Ex.refl _)⟩
    refine q_asgL (el_lst (ea_cons (ev _ (Ex.refl H) "BadCare" (by decide +kernel) _) (ea_cons (ev _ (Ex.refl H) "BadChart" (by decide +kernel) _) (ea_cons (ev _ (Ex.refl H) "BadCircle" (by decide +kernel) _) (ea_cons (ev _ (Ex.refl H) "BadCircles" (by decide +kernel) _) ea_nil)))) (by show 4 ≤ 100000; decide)) fun l0 H0 n0 e0 h0 => ?_
    refine q_asgL (el_catV (ev_var rfl) h0 (el_lst (ea_cons (ev _ e0 "BadColours" (by decide +kernel) _) (ea_cons (ev _ e0 "BadCorner" (by decide +kernel) _) (ea_cons (ev _ e0 "BadDart" (by decide +kernel) _) (ea_cons (ev _ e0 "BadDirections" (by decide +kernel) _) ea_nil)))) (by show 4 ≤ 100000; decide)) (by show 4 + 4 ≤ sizeLine; decide)) fun l1 H1 _ d1 h1 => ?_
    have e1 := e0.trans d1
    refine q_asgL (el_catV (ev_var rfl) h1 (el_lst (ea_cons (ev _ e1 "BadDrawing" (by decide +kernel) _) (ea_cons (ev _ e1 "BadEnds" (by decide +kernel) _) (ea_cons (ev _ e1 "BadFace" (by decide +kernel) _) (ea_cons (ev _ e1 "BadHeights" (by decide +kernel) _) ea_nil)))) (by show 4 ≤ 100000; decide)) (by show 8 + 4 ≤ sizeLine; decide)) fun l2 H2 _ d2 h2 => ?_
    have e2 := e1.trans d2
    refine q_asgL (el_catV (ev_var rfl) h2 (el_lst (ea_cons (ev _ e2 "BadJournal" (by decide +kernel) _) (ea_cons (ev _ e2 "BadKind" (by decide +kernel) _) (ea_cons (ev _ e2 "BadLead" (by decide +kernel) _) (ea_cons (ev _ e2 "BadLot" (by decide +kernel) _) ea_nil)))) (by show 4 ≤ 100000; decide)) (by show 12 + 4 ≤ sizeLine; decide)) fun l3 H3 _ d3 h3 => ?_
    have e3 := e2.trans d3
    refine q_asgL (el_catV (ev_var rfl) h3 (el_lst (ea_cons (ev _ e3 "BadMany" (by decide +kernel) _) (ea_cons (ev _ e3 "BadMore" (by decide +kernel) _) (ea_cons (ev _ e3 "BadMove" (by decide +kernel) _) (ea_cons (ev _ e3 "BadNames" (by decide +kernel) _) ea_nil)))) (by show 4 ≤ 100000; decide)) (by show 16 + 4 ≤ sizeLine; decide)) fun l4 H4 _ d4 h4 => ?_
    have e4 := e3.trans d4
    refine q_asgL (el_catV (ev_var rfl) h4 (el_lst (ea_cons (ev _ e4 "BadNet" (by decide +kernel) _) (ea_cons (ev _ e4 "BadOrder" (by decide +kernel) _) (ea_cons (ev _ e4 "BadOuts" (by decide +kernel) _) (ea_cons (ev _ e4 "BadPart" (by decide +kernel) _) ea_nil)))) (by show 4 ≤ 100000; decide)) (by show 20 + 4 ≤ sizeLine; decide)) fun l5 H5 _ d5 h5 => ?_
    have e5 := e4.trans d5
    refine q_asgL (el_catV (ev_var rfl) h5 (el_lst (ea_cons (ev _ e5 "BadPlaces" (by decide +kernel) _) (ea_cons (ev _ e5 "BadPoint" (by decide +kernel) _) (ea_cons (ev _ e5 "BadPolygon" (by decide +kernel) _) (ea_cons (ev _ e5 "BadPulls" (by decide +kernel) _) ea_nil)))) (by show 4 ≤ 100000; decide)) (by show 24 + 4 ≤ sizeLine; decide)) fun l6 H6 _ d6 h6 => ?_
    have e6 := e5.trans d6
    refine q_asgL (el_catV (ev_var rfl) h6 (el_lst (ea_cons (ev _ e6 "BadRing" (by decide +kernel) _) (ea_cons (ev _ e6 "BadRound" (by decide +kernel) _) (ea_cons (ev _ e6 "BadRow" (by decide +kernel) _) (ea_cons (ev _ e6 "BadShape" (by decide +kernel) _) ea_nil)))) (by show 4 ≤ 100000; decide)) (by show 28 + 4 ≤ sizeLine; decide)) fun l7 H7 _ d7 h7 => ?_
    have e7 := e6.trans d7
    refine q_asgL (el_catV (ev_var rfl) h7 (el_lst (ea_cons (ev _ e7 "BadStop" (by decide +kernel) _) (ea_cons (ev _ e7 "BadStress" (by decide +kernel) _) (ea_cons (ev _ e7 "BadText" (by decide +kernel) _) (ea_cons (ev _ e7 "BadTie" (by decide +kernel) _) ea_nil)))) (by show 4 ≤ 100000; decide)) (by show 32 + 4 ≤ sizeLine; decide)) fun l8 H8 _ d8 h8 => ?_
    have e8 := e7.trans d8
    refine q_asgL (el_catV (ev_var rfl) h8 (el_lst (ea_cons (ev _ e8 "BadTies" (by decide +kernel) _) (ea_cons (ev _ e8 "BadWay" (by decide +kernel) _) (ea_cons (ev _ e8 "BadWeights" (by decide +kernel) _) (ea_cons (ev _ e8 "BadWheel" (by decide +kernel) _) ea_nil)))) (by show 4 ≤ 100000; decide)) (by show 36 + 4 ≤ sizeLine; decide)) fun l9 H9 _ d9 h9 => ?_
    have e9 := e8.trans d9
    refine q_asgL (el_catV (ev_var rfl) h9 (el_lst (ea_cons (ev _ e9 "BadWood" (by decide +kernel) _) (ea_cons (ev _ e9 "NotBalanced" (by decide +kernel) _) (ea_cons (ev _ e9 "NotBeside" (by decide +kernel) _) (ea_cons (ev _ e9 "NotDrawn" (by decide +kernel) _) ea_nil)))) (by show 4 ≤ 100000; decide)) (by show 40 + 4 ≤ sizeLine; decide)) fun l10 H10 _ d10 h10 => ?_
    have e10 := e9.trans d10
    refine q_asgL (el_catV (ev_var rfl) h10 (el_lst (ea_cons (ev _ e10 "NotFlat" (by decide +kernel) _) (ea_cons (ev _ e10 "NotFull" (by decide +kernel) _) (ea_cons (ev _ e10 "NotJoined" (by decide +kernel) _) (ea_cons (ev _ e10 "NotOneFace" (by decide +kernel) _) ea_nil)))) (by show 4 ≤ 100000; decide)) (by show 44 + 4 ≤ sizeLine; decide)) fun l11 H11 _ d11 h11 => ?_
    have e11 := e10.trans d11
    refine q_asgL (el_catV (ev_var rfl) h11 (el_lst (ea_cons (ev _ e11 "NotOutside" (by decide +kernel) _) (ea_cons (ev _ e11 "NotOutward" (by decide +kernel) _) (ea_cons (ev _ e11 "NotParting" (by decide +kernel) _) (ea_cons (ev _ e11 "NotReal" (by decide +kernel) _) ea_nil)))) (by show 4 ≤ 100000; decide)) (by show 48 + 4 ≤ sizeLine; decide)) fun l12 H12 _ d12 h12 => ?_
    have e12 := e11.trans d12
    refine q_asgL (el_catV (ev_var rfl) h12 (el_lst (ea_cons (ev _ e12 "NotRoof" (by decide +kernel) _) (ea_cons (ev _ e12 "NotTaut" (by decide +kernel) _) (ea_cons (ev _ e12 "NotUpright" (by decide +kernel) _) (ea_cons (ev _ e12 "NothingDone" (by decide +kernel) _) ea_nil)))) (by show 4 ≤ 100000; decide)) (by show 52 + 4 ≤ sizeLine; decide)) fun l13 H13 _ d13 h13 => ?_
    have e13 := e12.trans d13
    refine s_retL (el_catV (ev_var rfl) h13 (el_lst (ea_cons (ev _ e13 "NothingUndone" (by decide +kernel) _) (ea_cons (ev _ e13 "OtherNet" (by decide +kernel) _) (ea_cons (ev _ e13 "TooFew" (by decide +kernel) _) (ea_cons (ev _ e13 "TooMany" (by decide +kernel) _) ea_nil)))) (by show 4 ≤ 100000; decide)) (by show 56 + 4 ≤ sizeLine; decide)) fun l H' n e hh => ?_
    exact k l H' (fresh_back e13 n) (e13.trans e) hh
end
end My
namespace My
open PySem PySem.Spec L2 Evl He
abbrev sLaw : Stmt := topS 68
/-! ### new errors, read -/
def MkV (te : TE) (σ : L2.St) (H : Hp) (C : Addr) : Prop := ∀ H1, Ex H H1 → ∀ Q : VK, (∀ a H2, Ex H1 H2 → ErrV H2 a C → Q (.ref a) H2) → te σ H1 Q
inductive ErrL (H : Hp) : List Addr → List Addr → Prop
  | nil : ErrL H [] []
  | cons {a C : Addr} {as Cs : List Addr} : ErrV H a C → ErrL H as Cs → ErrL H (a :: as) (C :: Cs)
theorem ErrL.up {H H' : Hp} (e : Ex H H') : ∀ {as Cs : List Addr}, ErrL H as Cs → ErrL H' as Cs
  | _, _, .nil => .nil
  | _, _, .cons h r => .cons (ErrV.up e h) (r.up e)
theorem ErrL.app {H : Hp} : ∀ {as Cs bs Ds : List Addr}, ErrL H as Cs → ErrL H bs Ds → ErrL H (as ++ bs) (Cs ++ Ds)
  | _, _, _, _, .nil, h => h
  | _, _, _, _, .cons h r, k => .cons h (r.app k)
theorem ErrL.len {H : Hp} : ∀ {as Cs : List Addr}, ErrL H as Cs → as.length = Cs.length
  | _, _, .nil => rfl
  | _, _, .cons _ r => congrArg (· + 1) r.len
theorem ErrL.get {H : Hp} : ∀ {as Cs : List Addr}, ErrL H as Cs → ∀ (i : Nat) (a : Addr), as[i]? = some a → ∃ C, Cs[i]? = some C ∧ ErrV H a C
  | _, _, .nil, _, _, h => nomatch h
  | _, _, .cons h r, 0, a, e => ⟨_, rfl, by cases e; exact h⟩
  | _, _, .cons h r, i + 1, a, e => r.get i a e
def MkA (ta : TA) (σ : L2.St) (H : Hp) (Cs : List Addr) : Prop := ∀ H1, Ex H H1 → ∀ Q : List V → Hp → Prop, (∀ as H2, Ex H1 H2 → ErrL H2 as Cs → Q (as.map V.ref) H2) → ta σ H1 Q
def MkL (te : TE) (σ : L2.St) (H : Hp) (Cs : List Addr) : Prop := ∀ H1, Ex H H1 → ∀ Q : VK, (∀ p as H2, Ex H1 H2 → ErrL H2 as Cs → H2 p = some (.lst (as.map V.ref)) → Q (.ref p) H2) → te σ H1 Q
section
variable {σ : L2.St} {H : Hp} {ta tb te : TE}
theorem mk_plain {C : Addr} {v : V} (h : σ[3]? = some (some v)) : MkV (fun σ H Q => tVar 3 σ H fun _ H1 => ∀ a, H1 a = none → Q (.ref a) (upd H1 a (ExO (.ref C) a))) σ H C :=
  fun H1 _ Q q => ⟨v, h, fun a ha => q a _ (Ex.new ha) (.inl upd_same)⟩
theorem ex2 {H1 : Hp} {a dd : Addr} {o u : HO} (ha : H1 a = none) (hd : H1 dd = none) (hne : dd ≠ a) : Ex H1 (upd (upd H1 dd o) a u) := (Ex.new hd).trans (Ex.new (by rw [upd_ne (Ne.symm hne)]; exact ha))
theorem mk_ini {C : Addr} {f : Str} {v : V} (h : σ[4]? = some (some v)) : MkV (tIni C f (tVar 4)) σ H C :=
  fun H1 _ Q q => ⟨v, h, fun a dd ha hd hne => q a _ (ex2 ha hd hne) (.inr ⟨dd, [(f, v)], upd_same, (upd_ne hne).trans upd_same⟩)⟩
theorem mka_nil : MkA tNil σ H [] := fun H1 _ Q q => q [] H1 (Ex.refl _) .nil
theorem mka_cons {tr : TA} {C : Addr} {Cs : List Addr} (h : MkV te σ H C) (hr : MkA tr σ H Cs) : MkA (tCons te tr) σ H (C :: Cs) := fun H1 e Q q =>
  h H1 e _ fun a H2 e2 h2 => hr H2 (e.trans e2) _ fun as H3 e3 h3 => q (a :: as) H3 (e2.trans e3) (.cons (ErrV.up e3 h2) h3)
theorem sz1000 {n : Nat} (h : n ≤ 1000) : n ≤ sizeLine := Nat.le_trans h (by decide)
theorem mkl_lst {tr : TA} {Cs : List Addr} (h : MkA tr σ H Cs) (hz : Cs.length ≤ 1000) : MkL (tLst tr) σ H Cs := fun H1 e Q q =>
  h H1 e _ fun as H2 e2 h2 => ⟨by rw [List.length_map, h2.len]; exact sz1000 hz, fun p hp => q p as _ (e2.trans (Ex.new hp)) (h2.up (Ex.new hp)) upd_same⟩
theorem mkl_cat {i : Nat} {l : Addr} {as Cs Ds : List Addr} (hs : σ[i]? = some (some (.ref l))) (hl : H l = some (.lst (as.map V.ref))) (h0 : ErrL H as Cs) (h : MkL tb σ H Ds) (hz : Cs.length + Ds.length ≤ 1000) : MkL (tOp rCat (tVar i) tb) σ H (Cs ++ Ds) := fun H1 e Q q =>
  ⟨_, hs, h H1 e _ fun p bs H2 e2 h2 hp => ⟨l, p, as.map V.ref, bs.map V.ref, rfl, rfl, e2 _ _ (e _ _ hl), hp, by rw [List.length_map, List.length_map, h0.len, h2.len]; exact sz1000 hz, fun r hr =>
    q r (as ++ bs) _ (e2.trans (Ex.new hr)) (((h0.up (e.trans e2)).app h2).up (Ex.new hr)) (by rw [List.map_append]; exact upd_same)⟩⟩
theorem q_mk {tz : TS} {D : Ends} {i : Nat} {Cs : List Addr} (h : MkL te σ H Cs) (k : ∀ p as H1, Ex H H1 → ErrL H1 as Cs → H1 p = some (.lst (as.map V.ref)) → tz D (σ.set i (some (.ref p))) H1) : tSeq (tAsg te (gName i)) tz D σ H :=
  h H (Ex.refl H) _ fun p as H1 e g hp => k p as H1 e g hp
theorem q_mkV {tz : TS} {D : Ends} {i : Nat} {C : Addr} (h : MkV te σ H C) (k : ∀ a H1, Ex H H1 → ErrV H1 a C → tz D (σ.set i (some (.ref a))) H1) : tSeq (tAsg te (gName i)) tz D σ H :=
  h H (Ex.refl H) _ fun a H1 e g => k a H1 e g
/-- C(n).f -/
theorem ev_ini {K : PySem.W.Frag} {C : Addr} {f : Str} {v : V} (h : σ[4]? = some (some v)) (T : ExcC K C) (hno : PySem.W.findIn K (.ref C) f = some none) : Ev (tExF K f (tIni C f (tVar 4))) σ H v :=
  fun H1 _ Q q => ⟨v, h, fun a dd ha hd hne => ⟨a, C, dd, v, rfl, upd_same, (upd_ne hne).trans upd_same, T, hno, q _ (ex2 ha hd hne)⟩⟩
/-- isinstance of an error -/
theorem ev_isV {K : PySem.W.Frag} {i : Nat} {a C : Addr} {c : V} {cv : Value} {b : Bool} (h : σ[i]? = some (some (.ref a))) (hE : ErrV H a C) (T : ExcC K C) (hc : ClsV c cv) (hk : PySem.W.kitOne K (.ref C) cv = some b) : Ev (tCB (rIsV K) (tCons (tVar i) (tCons (tC c) tNil))) σ H (.bl b) :=
  ev_cb (ea_cons (ev_var h) (ea_cons ev_c ea_nil)) fun H1 e1 Q q => ⟨a, C, c, cv, b, rfl, ErrV.up e1 hE, T, hc, hk, q H1 (Ex.refl _)⟩
theorem ev_isB {K : PySem.W.Frag} {i : Nat} {v c : V} {cv : Value} {b : Bool} (h : σ[i]? = some (some v)) (hc : ClsV c cv) (hk : PySem.W.kitOne K (.type "ValueError") cv = some b) :
    Ev (tCB (rIsB K) (tCons (fun σ H Q => tVar i σ H fun _ H1 => ∀ a, H1 a = none → Q (.ref a) (upd H1 a (ExB "ValueError" a))) (tCons (tC c) tNil))) σ H (.bl b) :=
  fun H1 _ Q q => ⟨v, h, fun a ha => ⟨a, c, cv, b, rfl, upd_same, hc, hk, q _ (Ex.new ha)⟩⟩
theorem dp_bls {K : PySem.W.Frag} {H : Hp} : ∀ bs : List Bool, DpAll K H (bs.map V.bl) (bs.map PyData.bool)
  | [] => .nil
  | b :: r => .cons (.bl b) (dp_bls r)
theorem depth_bls : ∀ bs : List Bool, PyData.depthAll (bs.map PyData.bool) = 0
  | [] => rfl
  | a :: r => by
    show max 0 (PyData.depthAll (r.map PyData.bool)) = 0
    rw [depth_bls r]
    rfl
theorem canLay_bls : ∀ bs : List Bool, PyData.canLayAll0 (bs.map PyData.bool) = true
  | [] => by simp [PyData.canLayAll0]
  | a :: r => by
    show PyData.canLayAll0 (PyData.bool a :: r.map PyData.bool) = true
    unfold PyData.canLayAll0
    rw [canLay_bls r]
    simp [PyData.canLay0]
theorem shaped_bls (bs : List Bool) : SeqAt.shaped (.list (bs.map PyData.bool)) = true := by
  have h1 : PyData.canLay0 (.list (bs.map PyData.bool)) = true := by unfold PyData.canLay0; exact canLay_bls bs
  have h2 : PyData.depth (.list (bs.map PyData.bool)) = 1 := by
    show PyData.depthAll (bs.map PyData.bool) + 1 = 1
    rw [depth_bls]
  unfold SeqAt.shaped
  rw [h1, h2]
  rfl
theorem eqv_bls : ∀ bs : List Bool, PyData.eqvAll (bs.map PyData.bool) (bs.map PyData.bool) = true
  | [] => by simp [PyData.eqvAll]
  | a :: r => by
    show PyData.eqvAll (PyData.bool a :: r.map PyData.bool) (PyData.bool a :: r.map PyData.bool) = true
    unfold PyData.eqvAll
    rw [eqv_bls r]
    simp [PyData.eqv]
theorem rv_neD {K : PySem.W.Frag} {bs : List Bool} {p q : Addr} (hp : H p = some (.lst (bs.map V.bl))) (hq : H q = some (.lst (bs.map V.bl))) : RV (rNeD K) (.ref p) (.ref q) H (.bl false) :=
  rv_val fun H1 e Q k => ⟨.list (bs.map PyData.bool), .list (bs.map PyData.bool), Dp.lst (SqL.of (e _ _ hp)) (dp_bls bs), Dp.lst (SqL.of (e _ _ hq)) (dp_bls bs), shaped_bls bs, shaped_bls bs, by
    have z : PyData.eqv (.list (bs.map PyData.bool)) (.list (bs.map PyData.bool)) = true := by unfold PyData.eqv; exact eqv_bls bs
    rw [z]
    exact k⟩
/-- the i-th kind is told by the i-th flag alone -/
def rowB (i : Nat) : List Bool := (List.range 60).map fun p => decide (p = i)
theorem kind_row : ∀ i < 60, (kindN.map fun y => decide (kindN.getD i "" = y)) = rowB i := by decide +kernel
theorem kind_row' {i : Nat} {x : Str} (h : kindN[i]? = some x) : (kindN.map fun y => V.bl (decide (x = y))) = (rowB i).map V.bl := by
  have hi : i < 60 := (List.getElem?_eq_some_iff.mp h).1
  have e : kindN.getD i "" = x := by rw [List.getD_eq_getElem?_getD, h]; rfl
  rw [← kind_row i hi, e, List.map_map]
  rfl
theorem given_row {i : Nat} : given 60 (fun _ => true) (fun p => V.bl (decide (V.int ((p : Nat) : Int) = V.int ((i : Nat) : Int)))) = (rowB i).map V.bl := by
  unfold given rowB
  rw [List.filter_eq_self.mpr fun _ _ => rfl, List.map_map]
  refine List.map_congr_left fun p _ => ?_
  show V.bl (decide (V.int ((p : Nat) : Int) = V.int ((i : Nat) : Int))) = V.bl (decide (p = i))
  congr 1
  exact decide_eq_decide.mpr ⟨fun e => by injection e with e; omega, fun e => by rw [e]⟩
theorem rep8 (n : Int) : (List.replicate (8 : Int).toNat [V.int n]).flatten = [V.int n, V.int n, V.int n, V.int n, V.int n, V.int n, V.int n, V.int n] := rfl
def d8 (n : Int) : PyData := .list [.int n, .int n, .int n, .int n, .int n, .int n, .int n, .int n]
theorem d8_ok : ∀ n < 100, (d8 (n : Nat)).showable = true ∧ (d8 (n : Nat)).hasDict = false ∧ (d8 (n : Nat)).depth ≤ 32 ∧ (d8 (n : Nat)).shown.length ≤ sizeLine := by decide +kernel
theorem ev_rep8 {K : PySem.W.Frag} {n : Nat} (hn : n < 100) (h : EvL te σ H [V.int n, V.int n, V.int n, V.int n, V.int n, V.int n, V.int n, V.int n]) : Ev (tCB (rReprD K) (tCons te tNil)) σ H (.str (d8 n).shown) := fun H1 e Q q => h H1 e _ fun p H2 hp e2 h2 => by
  obtain ⟨s1, s2, s3, s4⟩ := d8_ok n hn
  exact ⟨p, d8 n, rfl, Dp.lst (SqL.of h2) (.cons (.int _) (.cons (.int _) (.cons (.int _) (.cons (.int _) (.cons (.int _) (.cons (.int _) (.cons (.int _) (.cons (.int _) .nil)))))))), s1, s2, s3, s4, q H2 e2⟩
theorem el_var {i : Nat} {l : Addr} {xs : List V} (h : σ[i]? = some (some (.ref l))) (hl : H l = some (.lst xs)) : ∀ H1, Ex H H1 → tVar i σ H1 (fun v H2 => v = .ref l ∧ H2 = H1) := fun H1 _ => ⟨_, h, rfl, rfl⟩
theorem ev_rep8V {K : PySem.W.Frag} {i n : Nat} {l : Addr} (hn : n < 100) (h : σ[i]? = some (some (.ref l))) (hl : H l = some (.lst [V.int n, V.int n, V.int n, V.int n, V.int n, V.int n, V.int n, V.int n])) : Ev (tCB (rReprD K) (tCons (tVar i) tNil)) σ H (.str (d8 n).shown) := fun H1 e Q q => by
  obtain ⟨s1, s2, s3, s4⟩ := d8_ok n hn
  exact ⟨_, h, l, d8 n, rfl, Dp.lst (SqL.of (e _ _ hl)) (.cons (.int _) (.cons (.int _) (.cons (.int _) (.cons (.int _) (.cons (.int _) (.cons (.int _) (.cons (.int _) (.cons (.int _) .nil)))))))), s1, s2, s3, s4, q H1 (Ex.refl _)⟩
theorem el_rep {xs : List V} {k : Int} (h : EvL te σ H xs) (h1 : -(2 ^ 63) ≤ k) (h2 : k < 2 ^ 63) (h3 : xs.length * k.toNat ≤ 1000) : EvL (tOp rRep te (tC (.int k))) σ H (List.replicate k.toNat xs).flatten := fun H1 e Q q =>
  h H1 e _ fun p H2 hp e2 hx => ⟨p, k, xs, rfl, rfl, hx, h1, h2, sz1000 h3, fun r hr => q r _ (fresh_back e2 hr) (e2.trans (Ex.new hr)) upd_same⟩
end
def spLaw (K : PySem.W.Frag) : Sp := fun vs H Q _ => ∃ (a : Addr) (ns : List Int), vs = [.ref a] ∧ SqL K H a (ns.map V.int) ∧ ns.length ≤ 63 ∧ ∀ H', Q (.bl true) H'
theorem scLw : FnScope ["script", "state", "turn", "text", "number", "made", "at", "error", "other", "told", "place"] ["script"] (defScope sLaw) := ⟨rfl, rfl, rfl, by decide +kernel, rfl, by decide +kernel, by decide +kernel⟩
/-- the other built-ins that the law uses -/
structure LwB (mg : Str → Option Value) : Prop where
  rng : mg "range" = none
  min : mg "min" = none
  isi : mg "isinstance" = none
  enu : mg "enumerate" = none
  rep : mg "repr" = none
  val : mg "ValueError" = none
  sup : mg "super" = none
section
variable {P : Program} {w : World} {K : PySem.W.Frag} {mg : Str → Option Value} {base : Heap}
theorem sup_ok {X : Cx} {f : Str} (h1 : X.mg "super" = none) (h2 : ((X.prog.main.file : Str) == ("/claim/cut.py" : Str)) = true) (h3 : (X.prog.main.scope.names.lookup ("super" : Str)).isSome = false) (fs : ¬ f = "self") (fc : ¬ f = "__class__") (fu : ¬ f = "super") (fd : (f == ("__debug__" : Str)) = false) : SupOk X "/claim/cut.py" f :=
  ⟨h1, h2, h3, fs, fc, fu, fd, fun C tC => by
    unfold PySem.W.instIn
    rw [tC]
    rfl⟩
theorem pPl {X : Cx} {y : Str} {p0 p1 pos : Pos} (F : Facts X.K X.mg) (hX : X.N[3]? = some ("text" : Str)) (hV : Vis X.env.scope "text") (hg : Gl X y) (hy : y ∈ plainN) (hd : (y == ("__debug__" : Str)) = false) (h1 : starEach [Expr.Name "text" p1] X.env = (false, eval (.Name "text" p1) X.env) :: starEach [] X.env) (hk : y ∈ ("DrawError" : Str) :: kindN) :
    PE X (.Call (.Name y p0) [.Name "text" p1] [] pos) (fun σ H Q => tVar 3 σ H fun _ H1 => ∀ a, H1 a = none → Q (.ref a) (upd H1 a (ExO (.ref (ga X.K y)) a))) :=
  pe_exc1 PySem.F.excBase_ValueError (F.pl y hy) (F.gl y hk) (F.kp hk) hg (pe_var hX hV) h1 hd
theorem plain_sub : ∀ y ∈ plainN, y ∈ ("DrawError" : Str) :: kindN := by decide +kernel
theorem bind_iJ (a1 a2 : Pos) (fd : FuncData) (x u : Value) (e : fd.params = iniA "at" a1 a2) (ed : fd.defaults = .none) : bindArgs fd ⟨[x, u], []⟩ = pure [(("self" : Str), x), (("at" : Str), u)] := by
  obtain ⟨n1, n2, n3, n4, n5, n6, n7, n8, n9, n10, n11, n12, n13, n14, n15⟩ := fd
  have e' : n3 = iniA "at" a1 a2 := e
  have ed' : n8 = .none := ed
  subst e' ed'
  rfl
theorem bind_iT (a1 a2 : Pos) (fd : FuncData) (x u : Value) (e : fd.params = iniA "line" a1 a2) (ed : fd.defaults = .none) : bindArgs fd ⟨[x, u], []⟩ = pure [(("self" : Str), x), (("line" : Str), u)] := by
  obtain ⟨n1, n2, n3, n4, n5, n6, n7, n8, n9, n10, n11, n12, n13, n14, n15⟩ := fd
  have e' : n3 = iniA "line" a1 a2 := e
  have ed' : n8 = .none := ed
  subst e' ed'
  rfl
theorem bind_iD (a1 a2 : Pos) (fd : FuncData) (x u : Value) (e : fd.params = iniA "fault" a1 a2) (ed : fd.defaults = .none) : bindArgs fd ⟨[x, u], []⟩ = pure [(("self" : Str), x), (("fault" : Str), u)] := by
  obtain ⟨n1, n2, n3, n4, n5, n6, n7, n8, n9, n10, n11, n12, n13, n14, n15⟩ := fd
  have e' : n3 = iniA "fault" a1 a2 := e
  have ed' : n8 = .none := ed
  subst e' ed'
  rfl
theorem bind_iM (a1 a2 : Pos) (fd : FuncData) (x u : Value) (e : fd.params = iniA "most" a1 a2) (ed : fd.defaults = .none) : bindArgs fd ⟨[x, u], []⟩ = pure [(("self" : Str), x), (("most" : Str), u)] := by
  obtain ⟨n1, n2, n3, n4, n5, n6, n7, n8, n9, n10, n11, n12, n13, n14, n15⟩ := fd
  have e' : n3 = iniA "most" a1 a2 := e
  have ed' : n8 = .none := ed
  subst e' ed'
  rfl
theorem bind_kJ (a1 a2 : Pos) (fd : FuncData) (x u : Value) (e : fd.params = iniA "at" a1 a2) (ed : fd.defaults = .none) : bindArgs fd ⟨[x], [(("at" : Str), u)]⟩ = pure [(("self" : Str), x), (("at" : Str), u)] := by
  obtain ⟨n1, n2, n3, n4, n5, n6, n7, n8, n9, n10, n11, n12, n13, n14, n15⟩ := fd
  have e' : n3 = iniA "at" a1 a2 := e
  have ed' : n8 = .none := ed
  subst e' ed'
  rfl
theorem bind_kT (a1 a2 : Pos) (fd : FuncData) (x u : Value) (e : fd.params = iniA "line" a1 a2) (ed : fd.defaults = .none) : bindArgs fd ⟨[x], [(("line" : Str), u)]⟩ = pure [(("self" : Str), x), (("line" : Str), u)] := by
  obtain ⟨n1, n2, n3, n4, n5, n6, n7, n8, n9, n10, n11, n12, n13, n14, n15⟩ := fd
  have e' : n3 = iniA "line" a1 a2 := e
  have ed' : n8 = .none := ed
  subst e' ed'
  rfl
theorem bind_kD (a1 a2 : Pos) (fd : FuncData) (x u : Value) (e : fd.params = iniA "fault" a1 a2) (ed : fd.defaults = .none) : bindArgs fd ⟨[x], [(("fault" : Str), u)]⟩ = pure [(("self" : Str), x), (("fault" : Str), u)] := by
  obtain ⟨n1, n2, n3, n4, n5, n6, n7, n8, n9, n10, n11, n12, n13, n14, n15⟩ := fd
  have e' : n3 = iniA "fault" a1 a2 := e
  have ed' : n8 = .none := ed
  subst e' ed'
  rfl
theorem bind_kM (a1 a2 : Pos) (fd : FuncData) (x u : Value) (e : fd.params = iniA "most" a1 a2) (ed : fd.defaults = .none) : bindArgs fd ⟨[x], [(("most" : Str), u)]⟩ = pure [(("self" : Str), x), (("most" : Str), u)] := by
  obtain ⟨n1, n2, n3, n4, n5, n6, n7, n8, n9, n10, n11, n12, n13, n14, n15⟩ := fd
  have e' : n3 = iniA "most" a1 a2 := e
  have ed' : n8 = .none := ed
  subst e' ed'
  rfl
theorem StD.up {H H' : Hp} {d g c : Addr} {T : Int} (e : Ex H H') (h : StD H d g c T) : StD H' d g c T :=
  let ⟨gs, cs, l, t, h1, h2, h3, h4, h5, h6⟩ := h
  ⟨gs, cs, l, t, e _ _ h1, e _ _ h2, e _ _ h3, h4, h5, h6⟩
theorem el_is {te : TE} {σ : L2.St} {H : Hp} {xs ys : List V} (h : EvL te σ H xs) (e : xs = ys) : EvL te σ H ys := e ▸ h
theorem fl_sp {K : PySem.W.Frag} {H : Hp} {a C : Addr} (f : Str → Bool) (hE : ErrV H a C) (T : ExcC K C) (hk : ∀ y ∈ kindN, PySem.W.kitOne K (.ref C) (.ref (ga K y)) = some (f y)) : SpL (spFlags K) [.ref a] H (kindN.map fun y => V.bl (f y)) :=
  fun H1 e Q q E => ⟨a, C, f, rfl, ErrV.up e hE, T, hk, fun l H' n e' h => q l H' n e' h⟩
theorem noTrue : inV (.bl true) (kindN.map fun _ => V.bl false) = false := by decide +kernel
theorem ok_law {f fB fBl fP fDr fF : Addr} {fd fdB fdBl fdP fdDr fdF : FuncData} (F : Fun K "law" "law" sLaw f fd) (G : Facts K mg) (B : DrB mg) (L : LwB mg) (hPf : ((P.main.file : Str) == ("/claim/cut.py" : Str)) = true) (hPt : (P.main.scope.names.lookup ("super" : Str)).isSome = false)
    (FB : Fun K "_law_begun" "_law_begun" sBegun fB fdB) (mgB : mg "_law_begun" = some (.ref fB)) (FBl : Fun K "_law_blended" "_law_blended" sBlended fBl fdBl) (mgBl : mg "_law_blended" = some (.ref fBl))
    (FP : Fun K "_law_pick" "_law_pick" sPick fP fdP) (mgP : mg "_law_pick" = some (.ref fP)) (FDr : Fun K "_law_draw" "_law_draw" sDraw fDr fdDr) (mgDr : mg "_law_draw" = some (.ref fDr))
    (FF : Fun K "_law_k08_flags" "_law_k08_flags" sFlags fF fdF) (mgF : mg "_law_k08_flags" = some (.ref fF)) :
    FnOkG P w K mg base CX0 5 f fd ["script"] (spLaw K) := by
  have GB : FnOk P w K mg base CX0 1 fB fdB ["script"] (spBegun K) := ok_begun FB B
  have GP : FnOk P w K mg base CX0 3 fP fdP ["state", "several"] spPick := ok_pick FP B FBl mgBl FDr mgDr
  have GD : FnOk P w K mg base CX0 2 fDr fdDr ["state", "size_here"] spDraw := ok_draw FDr B FBl mgBl
  have GF : FnOk P w K mg base CX0 1 fF fdF ["error"] (spFlags K) := ok_flags FF G L.isi
  have bB : Binds K fdB ["script"] [] := FB.binds (ps := ["script"]) fun _ _ _ _ _ _ us hl => match us, hl with | [_], _ => rfl
  have bP : Binds K fdP ["state", "several"] [] := FP.binds (ps := ["state", "several"]) fun _ _ _ _ _ _ us hl => match us, hl with | [_, _], _ => rfl
  have bD : Binds K fdDr ["state", "size_here"] [] := FDr.binds (ps := ["state", "size_here"]) fun _ _ _ _ _ _ us hl => match us, hl with | [_, _], _ => rfl
  have bF : Binds K fdF ["error"] [] := FF.binds (ps := ["error"]) fun _ _ _ _ _ _ us hl => match us, hl with | [_], _ => rfl
  refine okG (sp := spLaw K) (N := ["script", "state", "turn", "text", "number", "made", "at", "error", "other", "told", "place"]) (let ⟨oc, od, kV, doc, pm, an, cdv, ct, osl, e, l, c⟩ := F.ex; ⟨oc, od, .none, kV, doc, pm, an, cdv, ct, osl, e, l, c⟩) scLw (fun vs H Q E h => ?_) (fun cdv A outer s H vs Q E hgd hr h => ?_)
  · obtain ⟨a, ns, rfl, _⟩ := h
    rfl
  · obtain ⟨a, ns, rfl, hS, hlen, k⟩ := h
    have hr1 := hr.mono (show 1 ≤ 4 by decide)
    have hr2 := hr.mono (show 2 ≤ 4 by decide)
    have hr3 := hr.mono (show 3 ≤ 4 by decide)
    let X : Cx := (cxOf CX0 P w K mg base ["script", "state", "turn", "text", "number", "made", "at", "error", "other", "told", "place"] "law" (defScope sLaw) f cdv A outer s H E).nox
    have hrX : Room 4 X.A := hr
    have hgX : X.A.guards = some [] := hgd
    have hu := hrX.units
    have hD : ("DrawError" : Str) ∈ ("DrawError" : Str) :: kindN := List.mem_cons_self ..
    have mP : ∀ {y : Str} {p0 p1 pos : Pos}, Gl X y → y ∈ plainN → (y == ("__debug__" : Str)) = false → PE X (.Call (.Name y p0) [.Name "text" p1] [] pos) (fun σ H Q => tVar 3 σ H fun _ H1 => ∀ a, H1 a = none → Q (.ref a) (upd H1 a (ExO (.ref (ga K y)) a))) :=
      fun hg hy hd => pPl (X := X) G rfl (Or.inl rfl) hg hy hd rfl (plain_sub _ hy)
    have SJ : SupOk X "/claim/cut.py" "at" := sup_ok L.sup hPf hPt (by decide +kernel) (by decide +kernel) (by decide +kernel) (by decide +kernel)
    have ST : SupOk X "/claim/cut.py" "line" := sup_ok L.sup hPf hPt (by decide +kernel) (by decide +kernel) (by decide +kernel) (by decide +kernel)
    have SD : SupOk X "/claim/cut.py" "fault" := sup_ok L.sup hPf hPt (by decide +kernel) (by decide +kernel) (by decide +kernel) (by decide +kernel)
    have SM : SupOk X "/claim/cut.py" "most" := sup_ok L.sup hPf hPt (by decide +kernel) (by decide +kernel) (by decide +kernel) (by decide +kernel)
    have kJ : ("BadJournal" : Str) ∈ kindN := by decide +kernel
    have kT : ("BadText" : Str) ∈ kindN := by decide +kernel
    have kD : ("NotDrawn" : Str) ∈ kindN := by decide +kernel
    have kM : ("TooMany" : Str) ∈ kindN := by decide +kernel
    have gJ : X.mg "BadJournal" = some (.ref (ga K "BadJournal")) := G.gl _ (List.mem_cons_of_mem _ kJ)
    have gT : X.mg "BadText" = some (.ref (ga K "BadText")) := G.gl _ (List.mem_cons_of_mem _ kT)
    have gD : X.mg "NotDrawn" = some (.ref (ga K "NotDrawn")) := G.gl _ (List.mem_cons_of_mem _ kD)
    have gM : X.mg "TooMany" = some (.ref (ga K "TooMany")) := G.gl _ (List.mem_cons_of_mem _ kM)
    have gE : X.mg "DrawError" = some (.ref (ga K "DrawError")) := G.gl _ hD
    have vN : ∀ {p : Pos}, PE X (.Name "number" p) (tVar 4) := pe_var rfl (Or.inl rfl)
    have mJ : ∀ {p0 p1 pos : Pos}, PE X (.Call (.Name "BadJournal" p0) [.Name "number" p1] [] pos) (tIni (ga K "BadJournal") "at" (tVar 4)) := pe_ini (k := 4) G.iJ SJ (G.ty kJ) hrX gJ bind_iJ vN
    have mT : ∀ {p0 p1 pos : Pos}, PE X (.Call (.Name "BadText" p0) [.Name "number" p1] [] pos) (tIni (ga K "BadText") "line" (tVar 4)) := pe_ini (k := 4) G.iT ST (G.ty kT) hrX gT bind_iT vN
    have mD : ∀ {p0 p1 pos : Pos}, PE X (.Call (.Name "NotDrawn" p0) [.Name "number" p1] [] pos) (tIni (ga K "NotDrawn") "fault" (tVar 4)) := pe_ini (k := 4) G.iD SD (G.ty kD) hrX gD bind_iD vN
    have mM : ∀ {p0 p1 pos : Pos}, PE X (.Call (.Name "TooMany" p0) [.Name "number" p1] [] pos) (tIni (ga K "TooMany") "most" (tVar 4)) := pe_ini (k := 4) G.iM SM (G.ty kM) hrX gM bind_iM vN
    have nJ : ∀ {p0 p1 kp pos : Pos}, PE X (.Call (.Name "BadJournal" p0) [] [⟨some "at", .Name "number" p1, kp⟩] pos) (tIni (ga K "BadJournal") "at" (tVar 4)) := pe_iniK (k := 4) G.iJ SJ (G.ty kJ) hrX gJ bind_kJ vN
    have nT : ∀ {p0 p1 kp pos : Pos}, PE X (.Call (.Name "BadText" p0) [] [⟨some "line", .Name "number" p1, kp⟩] pos) (tIni (ga K "BadText") "line" (tVar 4)) := pe_iniK (k := 4) G.iT ST (G.ty kT) hrX gT bind_kT vN
    have nD : ∀ {p0 p1 kp pos : Pos}, PE X (.Call (.Name "NotDrawn" p0) [] [⟨some "fault", .Name "number" p1, kp⟩] pos) (tIni (ga K "NotDrawn") "fault" (tVar 4)) := pe_iniK (k := 4) G.iD SD (G.ty kD) hrX gD bind_kD vN
    have nM : ∀ {p0 p1 kp pos : Pos}, PE X (.Call (.Name "TooMany" p0) [] [⟨some "most", .Name "number" p1, kp⟩] pos) (tIni (ga K "TooMany") "most" (tVar 4)) := pe_iniK (k := 4) G.iM SM (G.ty kM) hrX gM bind_kM vN
    have mE : ∀ {p0 p1 pos : Pos}, PE X (.Call (.Name "DrawError" p0) [.Name "text" p1] [] pos) (fun σ H Q => tVar 3 σ H fun _ H1 => ∀ a, H1 a = none → Q (.ref a) (upd H1 a (ExO (.ref (ga K "DrawError")) a))) := mP rfl (by decide +kernel) (by decide +kernel)
    refine ⟨_, PSs.nox (pss_cons (ps_set (i := 1) scLw.nd rfl (Or.inl rfl) (pe_call GB hr1 (by rfl) mgB FB.kp bB .nil pass0 (pa_cons (pv 0) pa_nil)))
      (pss_cut (ps_for PassesOwn.never rfl (pi_range1 (by rfl) L.rng (pa_cons (pe_op op_add pe_int (pe_callB (call_min2 rfl) (by rfl) L.min (by decide +kernel) (pa_cons (pe_callB call_len_seq (by rfl) B.len PySem.boot_len (pa_cons (pv 0) pa_nil)) (pa_cons pe_int pa_nil)))) pa_nil)) (pg_name (i := 2) scLw.nd rfl (Or.inl rfl))
        (pss_cut (ps_par (i := 3) (j := 4) rfl scLw.nd rfl rfl (by decide) rfl rfl (pa_cons (pe_call GP hr3 (by rfl) mgP FP.kp bP .nil pass0 (pa_cons (pv 1) (pa_cons (pe_lst (pa_cons pe_str (pa_cons pe_str (pa_cons pe_str pa_nil)))) pa_nil)))
          (pa_cons (pe_call GD hr2 (by rfl) mgDr FDr.kp bD .nil pass0 (pa_cons (pv 1) (pa_cons pe_int pa_nil))) pa_nil)) (by rfl))
        (pss_cons (ps_set (i := 5) scLw.nd rfl (Or.inl rfl) (pe_lst (pa_cons (mP (by rfl) (by decide +kernel) (by decide +kernel)) (pa_cons (mP (by rfl) (by decide +kernel) (by decide +kernel)) (pa_cons (mP (by rfl) (by decide +kernel) (by decide +kernel)) (pa_cons (mP (by rfl) (by decide +kernel) (by decide +kernel)) (pa_cons (mP (by rfl) (by decide +kernel) (by decide +kernel)) (pa_cons (mP (by rfl) (by decide +kernel) (by decide +kernel)) (pa_cons (mP (by rfl) (by decide +kernel) (by decide +kernel)) (pa_cons (mP (by rfl) (by decide +kernel) (by decide +kernel)) pa_nil))))))))))
        (pss_cons (ps_set (i := 5) scLw.nd rfl (Or.inl rfl) (pe_op op_cat (pv 5) (pe_lst (pa_cons (mP (by rfl) (by decide +kernel) (by decide +kernel)) (pa_cons (mP (by rfl) (by decide +kernel) (by decide +kernel)) (pa_cons (mP (by rfl) (by decide +kernel) (by decide +kernel)) (pa_cons (mP (by rfl) (by decide +kernel) (by decide +kernel)) (pa_cons mJ (pa_cons (mP (by rfl) (by decide +kernel) (by decide +kernel)) (pa_cons (mP (by rfl) (by decide +kernel) (by decide +kernel)) (pa_cons (mP (by rfl) (by decide +kernel) (by decide +kernel)) pa_nil)))))))))))
        (pss_cons (ps_set (i := 5) scLw.nd rfl (Or.inl rfl) (pe_op op_cat (pv 5) (pe_lst (pa_cons (mP (by rfl) (by decide +kernel) (by decide +kernel)) (pa_cons (mP (by rfl) (by decide +kernel) (by decide +kernel)) (pa_cons (mP (by rfl) (by decide +kernel) (by decide +kernel)) (pa_cons (mP (by rfl) (by decide +kernel) (by decide +kernel)) (pa_cons (mP (by rfl) (by decide +kernel) (by decide +kernel)) (pa_cons (mP (by rfl) (by decide +kernel) (by decide +kernel)) (pa_cons (mP (by rfl) (by decide +kernel) (by decide +kernel)) (pa_cons (mP (by rfl) (by decide +kernel) (by decide +kernel)) pa_nil)))))))))))
        (pss_cons (ps_set (i := 5) scLw.nd rfl (Or.inl rfl) (pe_op op_cat (pv 5) (pe_lst (pa_cons (mP (by rfl) (by decide +kernel) (by decide +kernel)) (pa_cons (mP (by rfl) (by decide +kernel) (by decide +kernel)) (pa_cons (mP (by rfl) (by decide +kernel) (by decide +kernel)) (pa_cons (mP (by rfl) (by decide +kernel) (by decide +kernel)) (pa_cons (mP (by rfl) (by decide +kernel) (by decide +kernel)) (pa_cons (mP (by rfl) (by decide +kernel) (by decide +kernel)) (pa_cons (mP (by rfl) (by decide +kernel) (by decide +kernel)) (pa_cons (mP (by rfl) (by decide +kernel) (by decide +kernel)) pa_nil)))))))))))
        (pss_cons (ps_set (i := 5) scLw.nd rfl (Or.inl rfl) (pe_op op_cat (pv 5) (pe_lst (pa_cons (mP (by rfl) (by decide +kernel) (by decide +kernel)) (pa_cons (mP (by rfl) (by decide +kernel) (by decide +kernel)) (pa_cons mT (pa_cons (mP (by rfl) (by decide +kernel) (by decide +kernel)) (pa_cons (mP (by rfl) (by decide +kernel) (by decide +kernel)) (pa_cons (mP (by rfl) (by decide +kernel) (by decide +kernel)) (pa_cons (mP (by rfl) (by decide +kernel) (by decide +kernel)) (pa_cons (mP (by rfl) (by decide +kernel) (by decide +kernel)) pa_nil)))))))))))
        (pss_cons (ps_set (i := 5) scLw.nd rfl (Or.inl rfl) (pe_op op_cat (pv 5) (pe_lst (pa_cons (mP (by rfl) (by decide +kernel) (by decide +kernel)) (pa_cons (mP (by rfl) (by decide +kernel) (by decide +kernel)) (pa_cons (mP (by rfl) (by decide +kernel) (by decide +kernel)) (pa_cons mD (pa_cons (mP (by rfl) (by decide +kernel) (by decide +kernel)) (pa_cons (mP (by rfl) (by decide +kernel) (by decide +kernel)) (pa_cons (mP (by rfl) (by decide +kernel) (by decide +kernel)) (pa_cons (mP (by rfl) (by decide +kernel) (by decide +kernel)) pa_nil)))))))))))
        (pss_cons (ps_set (i := 5) scLw.nd rfl (Or.inl rfl) (pe_op op_cat (pv 5) (pe_lst (pa_cons (mP (by rfl) (by decide +kernel) (by decide +kernel)) (pa_cons (mP (by rfl) (by decide +kernel) (by decide +kernel)) (pa_cons (mP (by rfl) (by decide +kernel) (by decide +kernel)) (pa_cons (mP (by rfl) (by decide +kernel) (by decide +kernel)) (pa_cons (mP (by rfl) (by decide +kernel) (by decide +kernel)) (pa_cons (mP (by rfl) (by decide +kernel) (by decide +kernel)) (pa_cons (mP (by rfl) (by decide +kernel) (by decide +kernel)) (pa_cons (mP (by rfl) (by decide +kernel) (by decide +kernel)) pa_nil)))))))))))
        (pss_cons (ps_set (i := 5) scLw.nd rfl (Or.inl rfl) (pe_op op_cat (pv 5) (pe_lst (pa_cons (mP (by rfl) (by decide +kernel) (by decide +kernel)) (pa_cons (mP (by rfl) (by decide +kernel) (by decide +kernel)) (pa_cons (mP (by rfl) (by decide +kernel) (by decide +kernel)) (pa_cons mM pa_nil)))))))
        (pss_cut (ps_for PassesOwn.never rfl (pi_enum (by rfl) L.enu (pa_cons (pv 5) pa_nil)) (pg_tup rfl (pgs_cons (pg_name (i := 6) scLw.nd rfl (Or.inr rfl)) (pgs_cons (pg_name (i := 7) scLw.nd rfl (Or.inl rfl)) pgs_nil)))
          (pss_cons (ps_if (pt_cmpR (op_neD hrX.units) (pe_call GF hr1 (by rfl) mgF FF.kp bF .nil pass0 (pa_cons (pv 7) pa_nil))
              (pe_lc (own := [("place", 10)]) (g := gName 10) rfl scLw.nd (pi_range1 (by rfl) L.rng (pa_cons (pe_callB call_len_seq (by rfl) B.len PySem.boot_len (pa_cons (pv 5) pa_nil)) pa_nil)) (blkOk_by (N := ["script", "state", "turn", "text", "number", "made", "at", "error", "other", "told", "place"]) (sc := defScope sLaw) (by decide +kernel))
                (fun _ _ _ _ _ => pg_name (i := 10) scLw.nd rfl (Or.inl rfl)) (fun _ _ _ _ _ => pts_nil) (fun _ _ _ _ _ => pe_cmpR op_eq (pv 10) (pe_var (i := 6) rfl (Or.inr (Or.inl (by rfl)))) (nomark _))) (nomark _))
              (pss_one (ps_ret pe_bl)) pss_nil)
          (pss_one (ps_if (PW.pt (pw_or (pt_not (pt_val (pe_callB call_isV (by rfl) L.isi (by decide +kernel) (pa_cons (pv 7) (pa_cons (pe_glob (v := .ref (ga K "DrawError")) (by rfl) gE rfl) pa_nil))))) (pw_or1 (pt_not (pt_val (pe_callB call_isV (by rfl) L.isi (by decide +kernel) (pa_cons (pv 7) (pa_cons (pe_bltn (v := .ty "ValueError") (by rfl) L.val boot_ValueError rfl) pa_nil))))))))
              (pss_one (ps_ret pe_bl)) pss_nil))))
        (pss_cons (ps_set (i := 8) scLw.nd rfl (Or.inl rfl) mE)
        (pss_cons (ps_if (PW.pt (pw_or (pt_cmpR op_in_seq pe_bl (pe_call GF hr1 (by rfl) mgF FF.kp bF .nil pass0 (pa_cons (pv 8) pa_nil)) (by rfl))
            (pw_or (pt_not (pt_val (pe_callB call_isV (by rfl) L.isi (by decide +kernel) (pa_cons (pv 8) (pa_cons (pe_bltn (v := .ty "ValueError") (by rfl) L.val boot_ValueError rfl) pa_nil)))))
            (pw_or1 (pt_val (pe_callB call_isB (by rfl) L.isi (by decide +kernel) (pa_cons (pe_excB L.val (pv 3)) (pa_cons (pe_glob (v := .ref (ga K "DrawError")) (by rfl) gE rfl) pa_nil))))))))
            (pss_one (ps_ret pe_bl)) pss_nil)
        (pss_cons (ps_set (i := 9) scLw.nd rfl (Or.inl rfl) (pe_lst (pa_cons (pe_exF mJ) (pa_cons (pe_exF mT) (pa_cons (pe_exF mD) (pa_cons (pe_exF mM) pa_nil))))))
        (pss_cons (ps_set (i := 9) scLw.nd rfl (Or.inl rfl) (pe_op op_cat (pv 9) (pe_lst (pa_cons (pe_exF nJ) (pa_cons (pe_exF nT) (pa_cons (pe_exF nD) (pa_cons (pe_exF nM) pa_nil)))))))
        (pss_one (ps_if (pt_cmpR op_ne (pe_callB (call_reprD hgX hu) (by rfl) L.rep (by decide +kernel) (pa_cons (pv 9) pa_nil)) (pe_callB (call_reprD hgX hu) (by rfl) L.rep (by decide +kernel) (pa_cons (pe_op op_rep (pe_lst (pa_cons (pv 4) pa_nil)) pe_int) pa_nil)) (nomark _))
            (pss_one (ps_ret pe_bl)) pss_nil)))))))))))))))))
      (pss_one (ps_ret pe_bl)))), ?_⟩
    refine ⟨_, rfl, a, ns, rfl, hS, hlen, fun d g c H1 hd hg hc st1 e1 => ?_⟩
    refine ⟨fun σ H' => True, ?_, fun σ H' _ => k H'⟩
    have hS1 := ex_l e1 hS
    have hl3 : (ns.map V.int).length ≤ 63 := by rw [List.length_map]; exact hlen
    refine s_forR1 (ea_cons (ev_op ev_c (ev_cb (ea_cons (ev_len (ev_var rfl) hS1) (ea_cons ev_c ea_nil)) (fun H1 _ Q q => ⟨_, _, rfl, q H1 (Ex.refl _)⟩)) rv_I0) ea_nil) ?_
      (fun i σ H' => StD H' d g c (2 * (i : Int)) ∧ ∃ x2 x3 x4 x5 x6 x7 x8 x9 x10 : Option V, σ = [some (.ref a), some (.ref d), x2, x3, x4, x5, x6, x7, x8, x9, x10]) (fun H2 e2 => ⟨(show StD H2 d g c (2 * ((0 : Nat) : Int)) from st1.up e2), none, none, none, none, none, none, none, none, none, rfl⟩) ?_ (fun _ _ _ => trivial)
    · split <;> omega
    · rintro i σ H2 hi ⟨st2, x2, x3, x4, x5, x6, x7, x8, x9, x10, rfl⟩
      have hi4 : (i : Int) < 4 := by
        split at hi <;> omega
      -- text, number
      refine ⟨fun σ H' => StD H' d g c (2 * ((i + 1 : Nat) : Int)) ∧ ∃ (tx : V) (n : Nat), n < 100 ∧ σ = [some (.ref a), some (.ref d), some (.int (i : Int)), some tx, some (.int (n : Int)), x5, x6, x7, x8, x9, x10], ?_, ?_⟩
      · refine ⟨_, rfl, by show 3 ≤ sizeLine; decide, fun l hl => ⟨d, g, c, l, 2 * (i : Int), [.str "", .str "a", .str "no net"], rfl, st2.up (Ex.new hl), by omega, upd_same, fun z => ?_, by decide, by decide, fun H3 x st3 _ _ => ?_⟩⟩
        · obtain ⟨_, _, _, _, _, q, _⟩ := st2
          rw [← z, hl] at q
          cases q
        · refine ⟨_, rfl, d, g, c, 2 * (i : Int) + 1, 100, rfl, st3, by omega, by decide, by decide, fun H4 v st4 _ v0 v1 => ⟨_, _, rfl, ?_, x, v.toNat, by omega, ?_⟩⟩
          · rw [show 2 * ((i + 1 : Nat) : Int) = 2 * (i : Int) + 1 + 1 by omega]
            exact st4
          · rw [show ((v.toNat : Nat) : Int) = v by omega]
            rfl
      rintro σ H3 ⟨st3, tx, n, hn, rfl⟩
      -- made
      refine q_mk (mkl_lst (mka_cons (mk_plain rfl) (mka_cons (mk_plain rfl) (mka_cons (mk_plain rfl) (mka_cons (mk_plain rfl) (mka_cons (mk_plain rfl) (mka_cons (mk_plain rfl) (mka_cons (mk_plain rfl) (mka_cons (mk_plain rfl) mka_nil)))))))) (by show 8 ≤ 1000; decide)) fun p0 as0 H0 f0 g0 h0 => ?_
      refine q_mk (mkl_cat (i := 5) rfl h0 g0 (mkl_lst (mka_cons (mk_plain rfl) (mka_cons (mk_plain rfl) (mka_cons (mk_plain rfl) (mka_cons (mk_plain rfl) (mka_cons (mk_ini (f := "at") rfl) (mka_cons (mk_plain rfl) (mka_cons (mk_plain rfl) (mka_cons (mk_plain rfl) mka_nil)))))))) (by show 8 ≤ 1000; decide)) (by show 8 + 8 ≤ 1000; decide)) fun p1 as1 H1 d1 g1 h1 => ?_
      have f1 := f0.trans d1
      refine q_mk (mkl_cat (i := 5) rfl h1 g1 (mkl_lst (mka_cons (mk_plain rfl) (mka_cons (mk_plain rfl) (mka_cons (mk_plain rfl) (mka_cons (mk_plain rfl) (mka_cons (mk_plain rfl) (mka_cons (mk_plain rfl) (mka_cons (mk_plain rfl) (mka_cons (mk_plain rfl) mka_nil)))))))) (by show 8 ≤ 1000; decide)) (by show 16 + 8 ≤ 1000; decide)) fun p2 as2 H2 d2 g2 h2 => ?_
      have f2 := f1.trans d2
      refine q_mk (mkl_cat (i := 5) rfl h2 g2 (mkl_lst (mka_cons (mk_plain rfl) (mka_cons (mk_plain rfl) (mka_cons (mk_plain rfl) (mka_cons (mk_plain rfl) (mka_cons (mk_plain rfl) (mka_cons (mk_plain rfl) (mka_cons (mk_plain rfl) (mka_cons (mk_plain rfl) mka_nil)))))))) (by show 8 ≤ 1000; decide)) (by show 24 + 8 ≤ 1000; decide)) fun p3 as3 H3 d3 g3 h3 => ?_
      have f3 := f2.trans d3
      refine q_mk (mkl_cat (i := 5) rfl h3 g3 (mkl_lst (mka_cons (mk_plain rfl) (mka_cons (mk_plain rfl) (mka_cons (mk_ini (f := "line") rfl) (mka_cons (mk_plain rfl) (mka_cons (mk_plain rfl) (mka_cons (mk_plain rfl) (mka_cons (mk_plain rfl) (mka_cons (mk_plain rfl) mka_nil)))))))) (by show 8 ≤ 1000; decide)) (by show 32 + 8 ≤ 1000; decide)) fun p4 as4 H4 d4 g4 h4 => ?_
      have f4 := f3.trans d4
      refine q_mk (mkl_cat (i := 5) rfl h4 g4 (mkl_lst (mka_cons (mk_plain rfl) (mka_cons (mk_plain rfl) (mka_cons (mk_plain rfl) (mka_cons (mk_ini (f := "fault") rfl) (mka_cons (mk_plain rfl) (mka_cons (mk_plain rfl) (mka_cons (mk_plain rfl) (mka_cons (mk_plain rfl) mka_nil)))))))) (by show 8 ≤ 1000; decide)) (by show 40 + 8 ≤ 1000; decide)) fun p5 as5 H5 d5 g5 h5 => ?_
      have f5 := f4.trans d5
      refine q_mk (mkl_cat (i := 5) rfl h5 g5 (mkl_lst (mka_cons (mk_plain rfl) (mka_cons (mk_plain rfl) (mka_cons (mk_plain rfl) (mka_cons (mk_plain rfl) (mka_cons (mk_plain rfl) (mka_cons (mk_plain rfl) (mka_cons (mk_plain rfl) (mka_cons (mk_plain rfl) mka_nil)))))))) (by show 8 ≤ 1000; decide)) (by show 48 + 8 ≤ 1000; decide)) fun p6 as6 H6 d6 g6 h6 => ?_
      have f6 := f5.trans d6
      refine q_mk (mkl_cat (i := 5) rfl h6 g6 (mkl_lst (mka_cons (mk_plain rfl) (mka_cons (mk_plain rfl) (mka_cons (mk_plain rfl) (mka_cons (mk_ini (f := "most") rfl) mka_nil)))) (by show 4 ≤ 1000; decide)) (by show 56 + 4 ≤ 1000; decide)) fun p7 as7 H7 d7 g7 h7 => ?_
      have f7 := f6.trans d7
      have gl : ErrL H7 as7 (kindN.map (ga K)) := g7
      have hl60 : (as7.map V.ref).length = 60 := by rw [List.length_map, gl.len]; rfl
      refine ⟨fun σ H' => Ex H7 H' ∧ ∃ y6 y7 : Option V, σ = [some (.ref a), some (.ref d), some (.int (i : Int)), some tx, some (.int (n : Int)), some (.ref p7), y6, y7, x8, x9, x10], ?_, ?_⟩
      · refine ⟨_, rfl, p7, as7.map V.ref, rfl, SqL.of h7, for_it walk_enum (fun j σ H' => Ex H7 H' ∧ ∃ y6 y7 : Option V, σ = [some (.ref a), some (.ref d), some (.int (i : Int)), some tx, some (.int (n : Int)), some (.ref p7), y6, y7, x8, x9, x10])
          ⟨Ex.refl _, _, _, rfl⟩ (fun j σ H' _ p => SqL.of (p.1 _ _ h7)) ?_ (fun σ H' p => p)⟩
        rintro j v σ H4 H5 hj ⟨e4, y6, y7, rfl⟩ ⟨T, x, y, rfl, hT, rfl, hx, hy⟩
        cases hx
        replace hy : (as7.map V.ref)[j]? = some y := hy
        rw [List.getElem?_map] at hy
        obtain ⟨er, her, rfl⟩ := Option.map_eq_some_iff.mp hy
        obtain ⟨C, hC, hE0⟩ := gl.get j er her
        rw [List.getElem?_map] at hC
        obtain ⟨kx, hkx, rfl⟩ := Option.map_eq_some_iff.mp hC
        have hkm : kx ∈ kindN := List.mem_of_getElem? hkx
        have e5 : Ex H7 (upd H4 T (.tup [V.int (j : Int), V.ref er])) := e4.trans (Ex.new hT)
        have hE := ErrV.up e5 hE0
        have hX := G.exc (List.mem_cons_of_mem _ hkm)
        refine ⟨T, _, rfl, SqT.of upd_same, rfl, _, _, rfl, _, _, rfl, rfl, ?_⟩
        refine q_when (b := false) (et_test (ev_opLL (el_is (el_call (ea_cons (ev_var rfl) ea_nil) (fl_sp (fun z => decide (kx = z)) hE hX fun z hz => G.kk hkm hz)) (kind_row' hkx))
          (el_is (el_lcR1 (fun _ => true) (fun p => V.bl (decide (V.int ((p : Nat) : Int) = V.int ((j : Nat) : Int)))) (ea_cons (ev_len (ev_var rfl) (SqL.of (e5 _ _ h7))) ea_nil) (by rw [hl60]; decide) (fun _ => rfl) (fun _ _ _ _ => fun H2 _ Q q => q H2 (Ex.refl H2)) (fun p H2 _ _ _ => ev_op (ev_var rfl) (ev_var rfl) (rv_eq rfl)))
            (by rw [hl60]; exact given_row)) (fun p q H2 hp hq _ => rv_neD hp hq))) (fun z => by cases z) (fun _ H6 e6 => ?_)
        refine s_when (b := false) (et_is (et_or (et_not (et_B (ev_isV rfl (ErrV.up e6 hE) hX (.own _) (G.kD hkm)))) (fun _ => et_not (et_B (ev_isV rfl (ErrV.up e6 hE) hX (.ty _) (G.kV (List.mem_cons_of_mem _ hkm)))))) rfl) (fun z => by cases z) (fun _ H7 e7 => ?_)
        exact ⟨(e5.trans e6).trans e7, _, _, rfl⟩
      rintro σ H4 ⟨e4, y6, y7, rfl⟩
      -- other
      refine q_mkV (mk_plain rfl) fun eo H5 e5 hE => ?_
      refine q_when (b := false) (et_is (et_or (et_test (ev_opL ev_c (el_call (ea_cons (ev_var rfl) ea_nil) (fl_sp (fun _ => false) hE (G.exc hD) fun z hz => G.Dk hz)) (fun p H2 hp _ => rv_isL (sq_of hp) rfl rfl)))
        (fun _ => et_or (et_not (et_B (ev_isV rfl hE (G.exc hD) (.ty _) (G.kV hD)))) (fun _ => et_B (ev_isB rfl (.own _) G.VD)))) (by rw [noTrue]; rfl)) (fun z => by cases z) (fun _ H6 e6 => ?_)
      -- told
      refine q_asgL (el_lst (ea_cons (ev_ini rfl (G.exc (List.mem_cons_of_mem _ kJ)) G.iJ.no) (ea_cons (ev_ini rfl (G.exc (List.mem_cons_of_mem _ kT)) G.iT.no) (ea_cons (ev_ini rfl (G.exc (List.mem_cons_of_mem _ kD)) G.iD.no) (ea_cons (ev_ini rfl (G.exc (List.mem_cons_of_mem _ kM)) G.iM.no) ea_nil)))) (by show 4 ≤ 100000; decide)) fun q1 H7 _ e7 h7 => ?_
      refine q_asgL (el_catV (ev_var rfl) h7 (el_lst (ea_cons (ev_ini rfl (G.exc (List.mem_cons_of_mem _ kJ)) G.iJ.no) (ea_cons (ev_ini rfl (G.exc (List.mem_cons_of_mem _ kT)) G.iT.no) (ea_cons (ev_ini rfl (G.exc (List.mem_cons_of_mem _ kD)) G.iD.no) (ea_cons (ev_ini rfl (G.exc (List.mem_cons_of_mem _ kM)) G.iM.no) ea_nil)))) (by show 4 ≤ 100000; decide)) (by show 4 + 4 ≤ sizeLine; decide)) fun q2 H8 _ e8 h8 => ?_
      refine s_when (b := false) (et_is (et_test (ev_op (ev_rep8V hn rfl h8) (ev_rep8 hn (el_rep (el_lst (ea_cons (ev_var rfl) ea_nil) (by show 1 ≤ 100000; decide)) (by decide) (by decide) (by show 1 * 8 ≤ 1000; decide))) (rv_ne rfl))) (by simp)) (fun z => by cases z) (fun _ H9 e9 => ?_)
      refine ⟨st3.up ((((((f7.trans e4).trans e5).trans e6).trans e7).trans e8).trans e9), _, _, _, _, _, _, _, _, _, rfl⟩
end
end My
namespace My
open PySem PySem.Spec PyProof.Rows L2 He
theorem fun_of0 {K : PySem.W.Frag} {x qual : Str} {st : Stmt} {f : Addr} {fd : FuncData} {kws : List (Str × V)} (F : FunD K x qual (defArgs st) (defBody st) (defScope st) [] kws f fd) : Fun K x qual st f fd := by
  obtain ⟨⟨oc, od, dV, kV, doc, pm, an, cdv, ct, osl, e, l, c, hd, _⟩, kp⟩ := F
  rcases hd with ⟨_, h⟩ | ⟨h, _⟩
  · subst h
    exact ⟨⟨oc, od, kV, doc, pm, an, cdv, ct, osl, e, l, c⟩, kp⟩
  · exact absurd rfl h
theorem facts {P : Program} {w : World} {K : PySem.W.Frag} {h : Heap} {mg : Str → Option Value} {f : Addr} (hPf : ((P.main.file : Str) == ("/claim/cut.py" : Str)) = true) (hPt : (P.main.scope.names.lookup ("super" : Str)).isSome = false) (X : K.In h) (G : h.Ns mainGlobals mg) (hfa : mg ("law" : Str) = some (.ref f)) (c : obsM K = valM) :
    ∃ fd : FuncData, (∀ (s : Shared) (v : Value), BindsTo s fd ⟨[v], []⟩ [("script", v)]) ∧ ∀ base : Heap, K.In base → base.Ns mainGlobals mg → FnOkG P w K mg base CX0 5 f fd ["script"] (spLaw K) := by
  have F8 := facts_of X G c
  have c1 := says_D c
  obtain ⟨fd0, F0⟩ := c1.def_ 0 (d := d_law_begun) rfl
  obtain ⟨fd1, F1⟩ := c1.def_ 1 (d := d_law_blended) rfl
  obtain ⟨fd2, F2⟩ := c1.def_ 2 (d := d_law_draw) rfl
  obtain ⟨fd3, F3⟩ := c1.def_ 3 (d := d_law_pick) rfl
  obtain ⟨fd4, F4⟩ := c1.def_ 4 (d := d_law_k08_flags) rfl
  obtain ⟨fd5, F5⟩ := c1.def_ 5 (d := d_law) rfl
  have e := hfa.symm.trans (glo_ok X G (c1.fact 5 (f := .glo "law") rfl))
  cases e
  have L := fun_of0 (x := "law") (qual := "law") (st := sLaw) (kws := []) F5
  have b := L.binds (ps := ["script"]) fun _ _ _ _ _ _ us hl => match us, hl with | [_], _ => rfl
  have fr : ∀ {x : Str}, Fa.free x ∈ faL → mg x = none := fun hx => free_ok X G (says_m c1 hx)
  have fa : ∀ {x : Str}, Fa.free x ∈ faF → mg x = none := fun hx => fr (List.mem_append.mpr (.inl (List.mem_append.mpr (.inl hx))))
  have i1 : mg "abs" = none := free_ok X G (c1.fact 6 (f := .free "abs") rfl)
  have i2 : mg "int" = none := free_ok X G (c1.fact 7 (f := .free "int") rfl)
  have i3 : mg "len" = none := free_ok X G (c1.fact 8 (f := .free "len") rfl)
  have i4 : mg "range" = none := free_ok X G (c1.fact 9 (f := .free "range") rfl)
  have i5 : mg "min" = none := free_ok X G (c1.fact 10 (f := .free "min") rfl)
  have i6 : mg "isinstance" = none := free_ok X G (c1.fact 11 (f := .free "isinstance") rfl)
  have i7 : mg "enumerate" = none := free_ok X G (c1.fact 12 (f := .free "enumerate") rfl)
  have i8 : mg "repr" = none := free_ok X G (c1.fact 13 (f := .free "repr") rfl)
  have i9 : mg "ValueError" = none := free_ok X G (c1.fact 14 (f := .free "ValueError") rfl)
  have i10 : mg "super" = none := free_ok X G (c1.fact 15 (f := .free "super") rfl)
  refine ⟨fd5, fun s v => ?_, fun base _ _ => ok_law L F8 ⟨i1, i2, i3⟩ ⟨i4, i5, i6, i7, i8, i9, i10⟩ hPf hPt (fun_of0 (x := "_law_begun") (qual := "_law_begun") (st := sBegun) (kws := []) F0) (glo_ok X G (c1.fact 0 (f := .glo "_law_begun") rfl)) (fun_of0 (x := "_law_blended") (qual := "_law_blended") (st := sBlended) (kws := []) F1) (glo_ok X G (c1.fact 1 (f := .glo "_law_blended") rfl)) (fun_of0 (x := "_law_pick") (qual := "_law_pick") (st := sPick) (kws := []) F3) (glo_ok X G (c1.fact 3 (f := .glo "_law_pick") rfl)) (fun_of0 (x := "_law_draw") (qual := "_law_draw") (st := sDraw) (kws := []) F2) (glo_ok X G (c1.fact 2 (f := .glo "_law_draw") rfl)) (fun_of0 (x := "_law_k08_flags") (qual := "_law_k08_flags") (st := sFlags) (kws := []) F4) (glo_ok X G (c1.fact 4 (f := .glo "_law_k08_flags") rfl))⟩
  have b2 := FunD.bindsA (ps := ["script"]) F5 fun _ _ _ _ _ _ us hl => match us, hl with | [_], _ => rfl
  exact b2 s [v] rfl
end My
open PySem PySem.W PySem.Calls PyProof.Rows
theorem PySem.Challenge.cw_flatdrawn_k08_errors_apart_holds : PySem.Challenge.rw_flatdrawn_k08_errors_apart.Holds := by
  w_on; o_law
  refine HandSHeadRun.head_any (r := OpenLaw.row PySem.Challenge.rw_flatdrawn_k08_errors_apart) (q := view (OpenLaw.row PySem.Challenge.rw_flatdrawn_k08_errors_apart).prog [68]) (H := My.hk) (ob := My.ob) (M := 13800) (loose := My.looseN) (d := HandSHeadRun.topDef (OpenLaw.row PySem.Challenge.rw_flatdrawn_k08_errors_apart).prog 68) (kwd := []) My.ob_eq
    (by kernel_rfl) (fun s => by kernel_rfl) My.run (by kernel_rfl) (by kernel_rfl) (by kernel_rfl) (by rfl) (by first | assumption | decide +kernel) (by decide +kernel) ⟨rfl, rfl, rfl, rfl, rfl, by decide +kernel⟩ ?hw ?hc
  case hw => w_witness2
  case hc =>
    refine L2.walk_ofG (l := PySem.Challenge.rw_flatdrawn_k08_errors_apart) (n := 63) (k := 5) (x := "script") (CX := L2.CX0) rfl (by decide) (by kernel_rfl) ⟨rfl, by decide, by decide⟩ ?F (fun _ _ _ _ z => z)
    intro w mg fa h Y G hmg0
    obtain ⟨K, KX, c⟩ := Y
    have hmg : mg ("law" : PySem.Str) = some (.ref fa) := by
      have e : (HandSHeadRun.topDef (OpenLaw.row PySem.Challenge.rw_flatdrawn_k08_errors_apart).prog 68).name = ("law" : PySem.Str) := by kernel_rfl
      rw [← e]
      exact hmg0
    obtain ⟨fd, hb, hF⟩ := My.facts (P := (PySem.Challenge.rw_flatdrawn_k08_errors_apart).prog) (w := w) (by kernel_rfl) (by kernel_rfl) KX G hmg c
    exact ⟨K, fd, My.spLaw K, KX, hb, fun H a ns hl _ hS => ⟨a, ns, rfl, hS, hl, fun _ => rfl⟩, hF⟩
