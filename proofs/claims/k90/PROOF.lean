import PyProof.Rows.All
import Wide.All
import OpenK.AllK
import Wide.FinOn
import HandS.ForMost
import PySem.Challenge.RW_flatdrawn_k90_whole_texts_of_places
import KE.KExcSuper
import KE.KFromBytes
import HandS.Base
import HandS.Call
import HandS.Exc
import KE.KStateDown
import KE.KExcInit
import KE.KExcPX
import KE.KSuper
import HandS.ExcIs
import HandS.Words
import HandS.Head2
import HandS.HeadEnd
import HandS.HeadHook2
import HandS.HeadHook4
import HandS.Lambda
import HandS.EndBits
import HandS.EndTab
import HandS.HeadWalk
import KE.DataAny
import HandS.Evl
import HandS.IsInst
import HandS.Conv
import HandS.Walk
import HandS.Zip
import HandS.TupAny
import HandS.SortRule
import PyProof.ReprRoads
import PyProof.ReprLen
import HandS.Deep
import HandS.TryOnly
import HandS.ExcOwn
import HandS.WordsExc
import HandS.HeadHook1
import HandS.SortInts
import HandS.List
import HandS.Set
import HandS.SetFor
import HandS.Strs
import PyProof.SetRoads
import HandS.Text
import HandS.ExcInit
import HandS.ExcField
import PyProof.Draws
import PyProof.EnumMake
import PyProof.TupleIter
import HandS.Iter
import KE.KLam
import HandS.Comp
import KE.KExcIs
import PyProof.ListMulRoad
import PyProof.FactsAll.tuple_2
import HandS.TupMul
import HandS.RaiseMore
import HandS.Ends
import HandS.More
import HandS.Defaults
import HandS.Head0
import HandS.Head1
set_option Elab.async false
set_option linter.all false
set_option maxRecDepth 100000
set_option maxHeartbeats 0
namespace My
open PySem L2
def topS (i : Nat) : Stmt := PySem.Challenge.pw_flatdrawn_k90_whole_texts_of_places.main.body.getD i (.Pass ⟨0, 0, 0, 0⟩)
def noS : Stmt := .Pass ⟨0, 0, 0, 0⟩
abbrev s_is_whole : Stmt := topS 1
abbrev s_is_number : Stmt := topS 2
abbrev s_is_rising : Stmt := topS 3
abbrev s_BadText_init : Stmt := inClass (topS 9) 0
abbrev s_is_pair_of : Stmt := topS 13
abbrev s_Net_init : Stmt := inClass (topS 14) 0
abbrev s_Net_eq : Stmt := inClass (topS 14) 1
abbrev s_need_net : Stmt := topS 15
abbrev s_are_places : Stmt := topS 18
abbrev s_is_place : Stmt := topS 19
abbrev s_need_places : Stmt := topS 20
abbrev s_places_text : Stmt := topS 24
abbrev s_number_of : Stmt := topS 25
abbrev s_lines_of : Stmt := topS 26
abbrev s_numbers_behind : Stmt := topS 27
abbrev s_places_of_text : Stmt := topS 28
abbrev s_law_begun : Stmt := topS 30
abbrev s_law_blended : Stmt := topS 31
abbrev s_law_draw : Stmt := topS 32
abbrev s_law_pick : Stmt := topS 33
abbrev s_law_mixed : Stmt := topS 34
abbrev s_law_caught : Stmt := topS 35
abbrev s_law_nt_ties : Stmt := topS 36
abbrev s_law_nt_no_net : Stmt := topS 37
abbrev s_law_st_no_places : Stmt := topS 38
abbrev s_law_k90_number : Stmt := topS 39
abbrev s_law_k90_due : Stmt := topS 40
abbrev s_law : Stmt := topS 41
abbrev nMostPlace : Str := "MOST_PLACE_straight"
abbrev s_law_num : Stmt := topS 39
end My
namespace My
open PySem PySem.W PySem.Calls PyProof.Rows PySem.HandSPX
/-! ### an __init__ that says super().__init__(text) and stores its one argument -/
def iniA (f : Str) (p1 p2 : Pos) : Arguments := { posonlyargs := [], args := [{ arg := "self", annotation := none, pos := p1 }, { arg := f, annotation := none, pos := p2 }], vararg := none, kwonlyargs := [], kw_defaults := [], kwarg := none, defaults := [] }
def iniB (f text : Str) (p0 p1 p2 p3 p4 p5 q1 q2 q3 q4 : Pos) (k : Nat) : List Stmt :=
  [.Expr (.Call (.Attribute (.Call (.Name "super" p0) [] [] p1) "__init__" p2) [.Constant (.str text) k p3] [] p4) p5, .Assign [.Attribute (.Name "self" q1) f q2] (.Name f q3) q4]
def iniS (f : Str) : Scope := { kind := .function, names := [("self", .local), (f, .local), ("__class__", .free), ("super", .globalImplicit)], isGenerator := false, isCoroutine := false, more := [] }
structure IniAt (K : Frag) (C fI : Addr) (f text file : Str) : Prop where
  sa : findIn K (.ref C) "__setattr__" = some (some (.builtin "object.__setattr__"))
  no : findIn K (.ref C) f = some none
  ini : findIn K (.ref C) "__init__" = some (some (.ref fI))
  tI : typeIn K (.ref fI) = some (.type "function")
  kC : keepIn K (.ref C) = true
  cls : ∃ nm q N bs bm sn sub ab col dd k0 k1 k2 k3 k5, K.lookup C = some (excClassObj nm q C N bs bm true sn sub ab col dd k0 k1 k2 k3 k5 "ValueError.__new__") ∧ refsVE bm = true
  sup : ks_superIn K C C "__init__" = some (some (.builtin "ValueError.__init__"))
  opq : nsIn K cStatics "thirdparty.any" = some none
  fn : ∃ (oc kV doc pm ct ccl cl : Value) (od an cdd cld : Option Addr) (osl ccs csl : Array (Option Value)) (qual : Str) (cda cc : Addr) (vs : Array Value) (tf : Tok) (a1 a2 p0 p1 p2 p3 p4 p5 q1 q2 q3 q4 : Pos) (k : Nat),
    K.lookup fI = some ⟨oc, od, .func (fnX "__init__" qual (iniA f a1 a2) (iniB f text p0 p1 p2 p3 p4 p5 q1 q2 q3 q4 k) (iniS f) [("__class__", cc)] .none kV doc pm an (.ref cda) ct), osl⟩ ∧ codeIn K (.ref cda) qual = true ∧
    K.lookup cda = some ⟨ccl, cdd, .fields vs, ccs⟩ ∧ vs[2]? = some (.str file tf) ∧ K.lookup cc = some ⟨cl, cld, .cell (some (.ref C)), csl⟩ ∧ (p2.endLine == p4.line) = true
/-- what __init__ leaves of a fresh exception at x -/
structure IniEnd (h h' : Heap) (x C dx t1 : Addr) (f : Str) (v : Value) : Prop where
  keep : ∀ b o, b ≠ x → h.get? b = some o → h'.get? b = some o
  obj : h'.get? x = some { cls := .ref C, dict := some dx, data := .fields #[.ref t1, .none, .none, .none, .bool false, .none] }
  dbig : h.objs.size ≤ dx
  dne : dx ≠ x
  ns : h'.Ns1 dx (fun y => if y = f then some v else none)
def plainQ (o : Expr) (env : Env) : Sem Bool := do return (← importBound o env).getD true
/-- a method call that stands on one line -/
theorem meth_line {o : Expr} {m : Str} {apos pos : Pos} {env : Env} {e : Expr} (hs : starEach [e] env = (false, eval e env) :: starEach [] env) (hl : (apos.endLine == pos.line) = true) :
    eval (.Call (.Attribute o m apos) [e] [] pos) env = (do
      let ov ← attributeBase o m env (eval o env)
      standAt apos.atName
      let (f, first) ← holding [ov] (getMethod ov m (plainQ o env))
      callWith pos f first (backTo pos (starEach [e] env)) []) := by
  have e2 : methodCallPos true o env apos pos = pure pos := by
    unfold methodCallPos
    exact if_pos (by rw [hl, Bool.or_true])
  have e1 : ∀ ov : Value, methodCall o m apos pos env ov 1 (backTo pos (starEach [e] env)) [] = (do
      let (f, first) ← holding [ov] (getMethod ov m (plainQ o env))
      callWith pos f first (backTo pos (starEach [e] env)) []) := fun ov => by
    have hf : methodCallForm 1 (backTo pos (starEach [e] env)) [] = true := by rw [hs]; rfl
    unfold methodCall
    rw [hf, e2]
    first
      | rfl
      | (simp only [pure_bind]; rfl)
  show (do
      let ov ← attributeBase o m env (eval o env)
      standAt apos.atName
      methodCall o m apos pos env ov 1 (backTo pos (starEach [e] env)) []) = _
  simp only [e1]
section
variable {prog : Program} {w : World} {A : Around} {E : Value → Shared → Prop} {R : Result → Shared → Prop} {s : Shared} {K : Frag} {mg mb : Str → Option Value} {C fI : Addr} {f text file : Str}
/-- the bound built-in __init__ called: the args are laid anew -/
theorem mw_call {h : Heap} {g : Array GenState} {d : Drawn} {t : Nat} {os : OsState} {B i newId : String} {bmB : List Value} {nm q : Str} {N x u t0 : Addr} {bs bm : List Value} {hdct : Bool} {sn : List Str} {sub : List Value} {ab : Bool} {col : Option Bool} {dd : Option Addr} {k0 k1 k2 k3 k5 : Option Value}
    {rest : List Value} {Q : Value → Shared → Prop} (FB : ExcBaseFacts B newId i bmB) (hC : h.get? C = some (excClassObj nm q C N bs bm hdct sn sub ab col dd k0 k1 k2 k3 k5 newId)) (hu : h.get? u = some (kxs_mw i x)) (he : h.get? x = some (excO C t0)) (hz : rest.length ≤ sizeLine)
    (hq : ∀ h' t1, (∀ b o, b ≠ x → h.get? b = some o → h'.get? b = some o) → h'.get? x = some (excO C t1) → Q .none ⟨h', g, d, t, os⟩) : wpAny (model prog w) A (call (.ref u) rest) Q E ⟨h, g, d, t, os⟩ := by
  refine wpAny_call (codeAny_of_tree ?_)
  show wpAny _ A.in1 (callAny (.ref u) ⟨rest, []⟩) _ _ _
  simp only [callAny]
  refine wpAny_bind (wpAny_load hu ?_)
  simp only [kxs_mw, show (Value.type "method-wrapper" == Value.type "method" || Value.type "method-wrapper" == Value.type "builtin_function_or_method" || Value.type "method-wrapper" == Value.type "method-wrapper") = true by decide, if_true]
  refine KFB.if_so (by decide) ?_
  refine wpAny_bind (check_bound_init FB.toExcCallFacts hC he rfl ?_)
  refine wpAny_bind (wpAny_pure (wpAny_pure ?_))
  refine ⟨plainId_quiet FB.init.plain _, codeAny_builtin FB.initEntry ?_⟩
  exact exc_init_tree (cls := .ref C) (t0 := t0) (dv := none) (c2 := .none) (c3 := .none) (b4 := .bool false) he hz fun h' k e' _ => hq h' _ k e'
theorem ini_run (T : IniAt K C fI f text file) (X : K.In s.heap) (G : s.heap.Ns mainGlobals mg) (Bn : s.heap.Ns builtinsNs mb) (hmb : ∀ x : Str, x ≠ "__name__" → mb x = bootBuiltins x) (hlim : s.heap.NoLimit) (hsup : mg "super" = none)
    (hfile : ((prog.main.file : Str) == file) = true) (htop : (prog.main.scope.names.lookup ("super" : Str)).isSome = false) (hfs : ¬ f = "self") (hfc : ¬ f = "__class__") (hfu : ¬ f = "super") (hfd : (f == ("__debug__" : Str)) = false)
    {x t0 : Addr} {v : Value} {args : Args} (hbind : ∀ (a1 a2 : Pos) (fd : FuncData) (oc : Value) (od : Option Addr) (osl : Array (Option Value)), K.lookup fI = some ⟨oc, od, .func fd, osl⟩ → fd.params = iniA f a1 a2 → fd.defaults = .none → BindsTo s fd args [(("self" : Str), .ref x), (f, v)])
    (hx : s.heap.get? x = some (excO C t0)) (hnx : K.lookup x = none) (hroom : A.depth < recursionLimit)
    (hq : ∀ h' tk dx t1, IniEnd s.heap h' x C dx t1 f v → R (.ok (.ret .none)) { s with heap := h', toks := tk }) :
    codeAny (model prog w) A (.call (.ref fI) args) R s := by
  obtain ⟨oc, kV, doc, pm, ct, ccl, cl, od, an, cdd, cld, osl, ccs, csl, qual, cda, cc, vs, tf, a1, a2, p0, p1, p2, p3, p4, p5, q1, q2, q3, q4, k, ho, hcd, hcode, hvs, hcell, hline⟩ := T.fn
  obtain ⟨nm, q, N, bs, bm, sn, sub, ab, col, dd, k0, k1, k2, k3, k5, hC, hbm⟩ := T.cls
  have hcl : clsIn K C = some { name := nm, bases := bs, mro := .ref C :: bm, ns := N, qualname := q, hasDict := true, slotNames := sn, subclasses := sub, abstract := ab, collection := col, hasDel := false } := by unfold clsIn; rw [hC] <;> rfl
  have l1 : (iniS f).names.lookup ("self" : Str) = some NameKind.local := rfl
  have l2 : (iniS f).names.lookup f = some NameKind.local := by
    have e : (f == ("self" : Str)) = false := by simpa using hfs
    show List.lookup f [(("self" : Str), NameKind.local), (f, .local), (("__class__" : Str), .free), (("super" : Str), .globalImplicit)] = _
    simp [List.lookup, e]
  have e3 : (("__class__" : Str) == f) = false := by
    rw [beq_eq_false_iff_ne]
    exact fun z => hfc z.symm
  have e4 : (("super" : Str) == f) = false := by
    rw [beq_eq_false_iff_ne]
    exact fun z => hfu z.symm
  have l3 : (iniS f).names.lookup ("__class__" : Str) = some NameKind.free := by
    show List.lookup ("__class__" : Str) [(("self" : Str), NameKind.local), (f, .local), (("__class__" : Str), .free), (("super" : Str), .globalImplicit)] = _
    have e0 : (("__class__" : Str) == ("self" : Str)) = false := by decide +kernel
    simp [List.lookup, e0, e3]
  have l4 : (iniS f).names.lookup ("super" : Str) = some NameKind.globalImplicit := by
    show List.lookup ("super" : Str) [(("self" : Str), NameKind.local), (f, .local), (("__class__" : Str), .free), (("super" : Str), .globalImplicit)] = _
    have e0 : (("super" : Str) == ("self" : Str)) = false := by decide +kernel
    have e1 : (("super" : Str) == ("__class__" : Str)) = false := by decide +kernel
    simp [List.lookup, e0, e1, e4]
  refine ks_codeAny_call_defAt (fd := fnX "__init__" qual (iniA f a1 a2) (iniB f text p0 p1 p2 p3 p4 p5 q1 q2 q3 q4 k) (iniS f) [("__class__", cc)] .none kV doc pm an (.ref cda) ct) (binds := [(("self" : Str), .ref x), (f, v)]) hroom (X _ _ ho) rfl hlim (codeRec_of X hcd) rfl (hbind a1 a2 _ _ _ _ ho rfl rfl) ?hcell ?hloc (fun h₁ hns hk => ?_)
  case hcell =>
    intro y hy
    have hy : y ∈ [(("self" : Str), NameKind.local), (f, .local), (("__class__" : Str), .free), (("super" : Str), .globalImplicit)] := hy
    simp only [List.mem_cons, List.not_mem_nil, or_false] at hy
    rcases hy with rfl | rfl | rfl | rfl <;> (intro z; cases z)
  case hloc =>
    intro y hy
    simp only [List.mem_cons, List.not_mem_nil, or_false] at hy
    rcases hy with rfl | rfl
    · exact l1
    · exact l2
  have X₁ : K.In h₁ := X.keeps hk
  have hx₁ := hk _ _ hx
  have hm1 : List.lookup ("self" : Str) [(f, v), (("self" : Str), .ref x)] = some (.ref x) := by
    have e : (("self" : Str) == f) = false := by
      rw [beq_eq_false_iff_ne]
      exact fun z => hfs z.symm
    simp [List.lookup, e]
  have hm2 : List.lookup f [(f, v), (("self" : Str), .ref x)] = some v := by simp [List.lookup]
  have hBm : ∀ Y : String, veTail.contains (.type Y) = true → subIn K (.ref C) (.type Y) = some true := fun Y hY => by
    show mroIn K C (.type Y) = some true
    unfold mroIn
    rw [hcl, Option.bind_some, if_neg (show ¬ (List.isEmpty (Value.ref C :: bm) = true) from Bool.false_ne_true), List.contains_cons, refsVE_contains Y bm hbm, hY, Bool.or_true]
  have hsubC : mroIn K C (.ref C) = some true := by
    unfold mroIn
    rw [hcl, Option.bind_some, if_neg (show ¬ (List.isEmpty (Value.ref C :: bm) = true) from Bool.false_ne_true)]
    simp
  refine ks_wpAt_execs_cons (ks_wpAt_Expr_any (ks_wpAt_MethodCall (pl := plainQ _ _) (ks_wpAt_super_base (env := ksEnv qual (iniS f) s.heap.objs.size fI (.ref cda) cc) l4 l3 (by decide +kernel) rfl (X₁ _ _ ho) rfl rfl rfl (X₁ _ _ hcode) rfl hvs hfile htop ?_) (meth_line rfl hline)))
  refine ks_loadName_global rfl l4 (loadGlobal_builtin (env := ksEnv qual (iniS f) s.heap.objs.size fI (.ref cda) cc) (G.keeps hk) hsup (Bn.keeps hk) ((hmb _ (by decide +kernel)).trans (by decide +kernel)) ⟨rfl, ?_⟩)
  refine wpAny_loadName_free rfl l3 rfl ⟨_, X₁ _ _ hcell, rfl⟩ ?_
  refine wpAny_loadName_local rfl l1 hns hm1 ?_
  refine ks_wpAny_isType_cls (X₁ _ _ hC) rfl ⟨rfl, ?_⟩
  refine ks_wpAny_call_super (X₁ _ _ hC) rfl hx₁ rfl (fun c e => by cases e) (looks_mroIn X₁ hsubC) (fun h₂ e₂ k₂ => ?_)
  have X₂ : K.In h₂ := X₁.keeps k₂
  have hx₂ := k₂ _ _ hx₁
  have I₂ : InstAt h₂ x (excO C t0) C none := ⟨hx₂, rfl, rfl, trivial⟩
  have hsup2 := T.sup
  unfold ks_superIn at hsup2
  rw [hcl, Option.bind_some] at hsup2
  refine kxs_getMethod kxs_ValueError e₂ (looks_opaque X₂ T.opq) (l₀ := .ref C :: bm) (fun A Q E s k q => wpAny_bind ((looks_clsIn X₂ hcl) A _ E s k (wpAny_pure q))) rfl X₂ hsup2 (I₂.type.andThen (looks_subIn X₂ (hBm "ValueError" (by decide +kernel)))) (ks_ne X₂ I₂ hcl) (by decide +kernel) ?_
  have k₃ : ∀ b o, h₂.get? b = some o → (h₂.push (kxs_mw "ValueError.__init__" x)).get? b = some o := fun b o e => Heap.get?_push_of_some _ e
  have hu₃ : (h₂.push (kxs_mw "ValueError.__init__" x)).get? h₂.objs.size = some (kxs_mw "ValueError.__init__" x) := Heap.get?_push_at rfl rfl
  have X₃ : K.In (h₂.push (kxs_mw "ValueError.__init__" x)) := X₂.keeps k₃
  have hx₃ := k₃ _ _ hx₂
  refine kxs_callWith (i := "ValueError.__init__") (x := x) rfl (evalArgs_plain (Calls.spliced_cons ?_))
  refine Calls.Constant_str (pos := p3) (k := k) (Calls.spliced_nil ⟨hu₃, ?_⟩)
  refine mw_call F.excBase_ValueError (X₃ _ _ hC) hu₃ hx₃ (by show 1 ≤ sizeLine; rw [sizeLine_eq]; omega) (fun h₄ t1 k₄ e₄ => ?_)
  have kept : ∀ b o, b ≠ x → s.heap.get? b = some o → h₄.get? b = some o := fun b o hb e => k₄ b o hb (k₃ b o (k₂ b o (hk b o e)))
  have X₄ : K.In h₄ := fun b o e => kept b o (fun z => by rw [z, hnx] at e; cases e) (X b o e)
  have hns₄ : h₄.Ns s.heap.objs.size (fun y => [(("self" : Str), Value.ref x), (f, v)].reverse.lookup y) := by
    obtain ⟨oL, es, ep, hL, r⟩ := hns
    exact ⟨oL, es, ep, k₄ _ _ (Nat.ne_of_gt (Heap.lt_size hx)) (k₃ _ _ (k₂ _ _ hL)), r⟩
  -- self.f = f
  refine ks_wpAt_execs_cons (wpAt_of_wpAny (plainObj_wpAny_Assign_Attribute ?_))
  refine wpAny_Name (wpAny_loadName_local rfl l2 hns₄ hm2 ?_) hfd
  refine wpAny_Name (wpAny_loadName_local rfl l1 hns₄ hm1 ?_) (by decide)
  refine set_plain X₄ (ox := excO C t1) (od := none) ⟨e₄, rfl, rfl, trivial⟩ T.sa ?_
  refine exc_osa X₄ e₄ hcl (show refsVE (.ref C :: bm) = true from hbm) rfl T.no (fun h₅ tk₅ dx k₅ dn dne hx₅ hn₅ => ?_)
  show _root_.PySem.wpAt _ _ _ (execs _ _) _ _ _
  refine wpAt_of_wpAny (wpAny_execs_nil (hq h₅ tk₅ dx t1 ⟨fun b o hb e => k₅ b o hb (kept b o hb e), hx₅, Nat.le_of_lt (Nat.lt_of_lt_of_le hns₄.lt dn), dne, hn₅⟩))
end
/-! ### such a class called with keywords -/
section
open Builtin Builtin.ObjectAttr
variable {M : Model} {A : Around} {E : Value → Shared → Prop} {h : Heap} {g : Array GenState} {d : Drawn} {t : Nat} {os : OsState}
variable {nm q : Str} {C N : Addr} {bs bm bmB : List Value} {hdct : Bool} {sn : List Str} {sub : List Value} {ab : Bool} {col : Option Bool} {dd : Option Addr} {k0 k1 k2 k3 k5 : Option Value} {B newId initId : String}
theorem kw_check (F : ExcBaseFacts B newId initId bmB) (hT : ∀ X : String, bm.contains (.type X) = bmB.contains (.type X)) {rest : List Value} {kw : List (Str × Value)} {Q : Unit → Shared → Prop}
    (hC : h.get? C = some (excClassObj nm q C N bs bm hdct sn sub ab col dd k0 k1 k2 k3 k5 newId)) (hq : Q () ⟨h, g, d, t, os⟩) : wpAny M A (checkBuiltinCall newId ⟨.ref C :: rest, kw⟩) Q E ⟨h, g, d, t, os⟩ := by
  have hB : (Value.ref C :: bm).contains (.type B) = true := by rw [List.contains_cons, hT, F.hasB, Bool.or_true]
  have hs := F.noStar
  simp only [checkBuiltinCall, F.newKind, F.newSplit, F.newRow]
  repeat (first | refine wpAny_loadPart_at hC ?_ | (refine wpAny_isSubtype_exc hC ?_; rw [hB]) | refine wpAny_staticBase_exc hC ?_ | refine wpAny_madeBy_exc hC ?_ | simp only [bne_self_eq_false, Bool.false_eq_true, if_false] | wp_step)
  exact hq
end
section
open Builtin Builtin.ObjectAttr
variable {prog : Program} {w : World} {A : Around} {E : Value → Shared → Prop} {R : Result → Shared → Prop} {h : Heap} {g : Array GenState} {d : Drawn} {t : Nat} {os : OsState}
variable {nm q : Str} {C N : Addr} {bs bm bmB : List Value} {hdct : Bool} {sn : List Str} {sub : List Value} {ab : Bool} {col : Option Bool} {dd : Option Addr} {k0 k1 k2 k3 k5 : Option Value} {B newId initId : String}
theorem kw_new (F : ExcBaseFacts B newId initId bmB) (hT : ∀ X : String, bm.contains (.type X) = bmB.contains (.type X)) {rest : List Value} {kw : List (Str × Value)}
    (hC : h.get? C = some (excClassObj nm q C N bs bm hdct sn sub ab col dd k0 k1 k2 k3 k5 newId))
    (hq : R (.ok (.ret (.ref (h.objs.size + 1)))) ⟨(h.push { cls := .type "tuple", data := .seq rest.toArray }).push { cls := .ref C, data := .fields #[.ref h.objs.size, .none, .none, .none, .bool false, .none] }, g, d, t, os⟩) (hz : rest.length ≤ sizeLine) :
    codeAny (model prog w) A (.builtin newId ⟨.ref C :: rest, kw⟩) R ⟨h, g, d, t, os⟩ := by
  have he := F.ends
  have hB : (Value.ref C :: bm).contains (.type B) = true := by rw [List.contains_cons, hT, F.hasB, Bool.or_true]
  have hA : (Value.ref C :: bm).contains (.type "AttributeError") = false := by rw [List.contains_cons, hT, F.noAttr]; rfl
  have hN : (Value.ref C :: bm).contains (.type "NameError") = false := by rw [List.contains_cons, hT, F.noName]; rfl
  refine codeAny_builtinAt F.entry ?_
  unfold Builtin.«BaseException.__new__»
  refine PySem.wpAt_bind ?_
  show PySem.wpAt _ _ _ (stack >>= _) _ _ _
  refine PySem.wpAt_bind (PySem.wpAt_stack fun p below => PySem.wpAt_of_wpAny ?_)
  wp_walk
  refine PySem.wpAt_of_wpAny ?_
  rw [F.owner]
  repeat (first | with_reducible refine wpAny_madeHere_exc F.canon hC ?_ | with_reducible refine wpAny_loadPart_at hC ?_ | (with_reducible refine wpAny_isSubtype_exc hC ?_; first | rw [hB] | rw [hA] | rw [hN]) | wp_step)
  show R _ _
  rw [Heap.size_push]
  exact hq
theorem kw_type (F : ExcBaseFacts B newId initId bmB) (hT : ∀ X : String, bm.contains (.type X) = bmB.contains (.type X)) {rest : List Value} {kw : List (Str × Value)} {fI : Addr} {Q : Fin → Shared → Prop}
    (hC : h.get? C = some (excClassObj nm q C N bs bm hdct sn sub ab col dd k0 k1 k2 k3 k5 newId))
    (hi : W.Looks (model prog w) h (typeLookup (.ref C) "__init__") (some (.ref fI))) (hb : ∀ self, W.Looks (model prog w) h (bindSpecial (.ref fI) self) (.ref fI, [self])) (hz : rest.length ≤ sizeLine)
    (hq : codeAny (model prog w) A (.call (.ref fI) ⟨.ref (h.objs.size + 1) :: rest, kw⟩)
      (fun r s' => match r with | .ok (.ret v) => v = .none ∧ Q (.done (.ret (.ref (h.objs.size + 1)))) s' | .ok _ => False | .error e => E e s')
      ⟨(h.push (W.kdv_tup rest)).push (excO C h.objs.size), g, d, t, os⟩) :
    wpAny (model prog w) A (Builtin.«type.__call__» ⟨.ref C :: rest, kw⟩) Q E ⟨h, g, d, t, os⟩ := by
  repeat (first | with_reducible refine wpAny_loadPart_at hC ?_ | with_reducible refine wpAny_madeBy_exc hC ?_ | wp_step)
  refine codeAny_call_builtin_code (Code.quiet_builtin _ F.quiet) (kw_check F hT hC ?_)
  refine kw_new F hT hC ?_ hz
  show wpAny _ _ _ _ _ _
  have kp : ∀ b o, h.get? b = some o → ((h.push (W.kdv_tup rest)).push (excO C h.objs.size)).get? b = some o := fun b o e => Heap.get?_push_of_some _ (Heap.get?_push_of_some _ e)
  have hC1 := kp _ _ hC
  have hg : ((h.push (W.kdv_tup rest)).push (excO C h.objs.size)).get? (h.objs.size + 1) = some (excO C h.objs.size) := by heap_get
  have hcC : (Value.ref C :: bm).contains (.ref C) = true := by simp
  have i1 := hi.keeps kp
  have b1 := (hb (.ref (h.objs.size + 1))).keeps kp
  unfold isInstance
  repeat (first | with_reducible refine wpAny_loadPart_at hg ?_ | (with_reducible refine wpAny_isSubtype_exc hC1 ?_; rw [hcC]) | wp_step)
  show wpAny _ _ (typeLookup (.ref C) _) _ _ _
  refine i1.at ?_
  refine wpAny_holding (wpAny_bind (b1.at ?_))
  refine wpAny_bind (wpAny_call (codeAny_mono hq fun r s' z => ?_))
  rcases r with e | (v | _ | _ | _) <;> first | exact z | exact z.elim | skip
  obtain ⟨rfl, z⟩ := z
  first
    | exact wpAny_pure (wpAny_pure z)
    | (wp_walk; exact z)
theorem kw_call (F : ExcBaseFacts B newId initId bmB) (hT : ∀ X : String, bm.contains (.type X) = bmB.contains (.type X)) {rest : List Value} {kw : List (Str × Value)} {fI : Addr}
    (hC : h.get? C = some (excClassObj nm q C N bs bm hdct sn sub ab col dd k0 k1 k2 k3 k5 newId))
    (hi : W.Looks (model prog w) h (typeLookup (.ref C) "__init__") (some (.ref fI))) (hb : ∀ self, W.Looks (model prog w) h (bindSpecial (.ref fI) self) (.ref fI, [self])) (ht : W.Looks (model prog w) h (isInstance (.ref C) (.type "type")) true) (hz : rest.length ≤ sizeLine)
    (hq : codeAny (model prog w) (A.under (.builtin "type.__call__" ⟨.ref C :: rest, kw⟩)) (.call (.ref fI) ⟨.ref (h.objs.size + 1) :: rest, kw⟩) (W.InitBack (h.objs.size + 1) R)
      ⟨(h.push (W.kdv_tup rest)).push (excO C h.objs.size), g, d, t, os⟩) :
    codeAny (model prog w) A (.call (.ref C) ⟨rest, kw⟩) R ⟨h, g, d, t, os⟩ := by
  have f1 := tc_lookup
  have f2 := tc_bind (.ref C)
  have hTy : (⟨h, g, d, t, os⟩ : Shared).TypeIs (.ref C) "type" := ⟨_, hC, rfl⟩
  refine codeAny_of_tree ?_
  show wpAny _ _ (callAny (.ref C) _) _ _ _
  repeat (any_goals (first | assumption | with_reducible refine wpAny_loadPart_at hC ?_ | wp_step))
  refine ⟨rfl, ?_⟩
  refine codeAny_call_builtin_at (Code.quiet_builtin _ (by decide +kernel)) entry_typeCall (W.check_slot tc_kind tc_split ht (W.tc_args _ _ _) (kw_type F hT hC hi hb hz ?_))
  refine codeAny_mono hq fun r s' z => ?_
  rcases r with e | (v | _ | _ | _) <;> exact z
end
end My
/-! the head, with error classes that have an __init__ of their own -/
namespace My
open PySem PySem.Spec PyProof.Rows L2 He
/-- the class at C: its own name first, then classes, then ValueError's line -/
def clsX (K : PySem.W.Frag) (C : Addr) : Bool := match K.lookup C with
  | some ⟨.type c, _, .cls cd, sl⟩ => decide (c = "type") && (match cd.mro, sl.toList with
    | .ref C' :: bm, [_, _, _, _, some (.builtin n), _] => decide (C' = C) && (decide (n = "ValueError.__new__") && ((!cd.hasDel) && (cd.hasDict && PySem.HandSPX.refsVE bm)))
    | _, _ => false)
  | _ => false
/-- its __init__: the code object names the text's file, the one cell holds the class -/
def iniX (K : PySem.W.Frag) (x : Str) : Bool := match K.lookup (ma K (ga K x) "__init__") with
  | some ⟨_, _, .func fd, _⟩ => decide (fd.defaults = .none) && (PySem.W.codeIn K fd.code fd.qualname && ((match fd.code with
      | .ref c => (match K.lookup c with
        | some ⟨_, _, .fields vs, _⟩ => (match vs.toList with
          | _ :: _ :: .str z _ :: _ => decide (z = "/claim/cut.py")
          | _ => false)
        | _ => false)
      | _ => false) && (match fd.closure with
      | [(_, c)] => (match K.lookup c with
        | some ⟨_, _, .cell (some (.ref C)), _⟩ => decide (C = ga K x)
        | _ => false)
      | _ => false)))
  | _ => false
/-- what the making and the raising of the class x ask, that has an __init__ of its own that stores f -/
def initE (K : PySem.W.Frag) (x f : Str) : Bool :=
  eqO (PySem.W.findIn K (.ref (ga K x)) "__setattr__") (some (some (.builtin "object.__setattr__"))) &&
  (eqO (PySem.W.findIn K (.ref (ga K x)) f) (some none) &&
  (eqO (PySem.W.findIn K (.ref (ga K x)) "__init__") (some (some (.ref (ma K (ga K x) "__init__")))) &&
  (PySem.W.isFn K (.ref (ma K (ga K x) "__init__")) &&
  (eqO (PySem.W.ks_superIn K (ga K x) (ga K x) "__init__") (some (some (.builtin "ValueError.__init__"))) && (clsX K (ga K x) && (iniX K x &&
  (PySem.W.keepIn K (.ref (ga K x)) && (decide (PySem.W.subIn K (.ref (ga K x)) (.type "BaseException") = some true) && (decide (PySem.W.typeIn K (.ref (ga K x)) = some (.type "type")) && eqO (PySem.W.nsIn K cStatics "thirdparty.any") (some none))))))))))
abbrev FnI : Type := Option (Str × Str × Arguments × FuncBody × Scope × Addr × List Str × Addr)
def fnI (K : PySem.W.Frag) (x : Str) : FnI := match K.lookup (ma K (ga K x) "__init__") with
  | some ⟨_, _, .func fd, _⟩ => some (fd.name, fd.qualname, fd.params, fd.body, fd.scope, fd.globals, fd.closure.map (·.1), fd.builtins)
  | _ => none
abbrev IniD : Type := Str × Stmt
def valI (p : IniD) : FnI := some ("__init__", p.1 ++ ".__init__", defArgs p.2, .stmts (defBody p.2), defScope p.2, mainGlobals, ["__class__"], builtinsNs)
abbrev AlI : Type := AlX × List FnI
def obsI (n : Nat) (fa : List Fa) (fn : List DefD) (tf : List Defn) (ex : PySem.W.Frag → Bool) (ini : List IniD) (g : Addr → Option Obj) : AlI :=
  ((obsT fa fn [] (frT g (cStatics :: asD g n)), ex (frT g (cStatics :: asD g n)) && tabsB g tf (frT g (cStatics :: asD g n))), ini.map fun p => fnI (frT g (cStatics :: asD g n)) p.1)
def valsI (fn : List DefD) (ini : List IniD) (w : World) : AlI := (valX fn [] w, ini.map valI)
structure SaysI (fa : List Fa) (fn : List DefD) (tf : List Defn) (ex : PySem.W.Frag → Bool) (ini : List IniD) (w : World) (h : Heap) (K : PySem.W.Frag) : Prop where
  x : SaysX fa fn [] tf ex w h K
  i : (ini.map fun p => fnI K p.1) = ini.map valI
theorem saysI_of {n : Nat} {fa : List Fa} {fn : List DefD} {tf : List Defn} {ex : PySem.W.Frag → Bool} {ini : List IniD} {w : World} {h : Heap} (e : obsI n fa fn tf ex ini h.get? = valsI fn ini w) :
    SaysI fa fn tf ex ini w h (frT h.get? (cStatics :: asD h.get? n)) := by
  have a1 := congrArg (fun z : AlI => z.1.1) e
  have a2 := congrArg (fun z : AlI => z.1.2) e
  have a3 := congrArg (fun z : AlI => z.2) e
  dsimp only [obsI, valsI, valX] at a1 a2 a3
  generalize hK : frT h.get? (cStatics :: asD h.get? n) = K at a1 a2 a3 ⊢
  obtain ⟨b1, b2⟩ := ba a2
  have tabs : ∀ p ∈ tf, PySem.W.codeHdIn K (cT K p).1 (cT K p).2 = true ∧ ∃ o, h.get? (cT K p).2 = some o ∧ emptyTab o = true := fun p hp => by
    obtain ⟨c1, c2⟩ := ba (List.all_eq_true.mp b2 p hp)
    match z : h.get? (cT K p).2 with
    | none =>
      rw [z] at c2
      cases c2
    | some o =>
      rw [z] at c2
      exact ⟨c1, o, rfl, c2⟩
  refine ⟨⟨a1, b1, fun p hp => (tabs p hp).1, fun p hp => ?_, fun p hp => ?_⟩, a3⟩
  · obtain ⟨_, o, y, z⟩ := tabs p hp
    have t : ∀ q : Addr, h.get? q = some o → K.lookup q = none := fun q hq => by
      rw [← hK]
      exact frT_none hq z
    exact t _ y
  · obtain ⟨_, o, y, z⟩ := tabs p hp
    rw [y, emptyTab_eq z]
def hookI (n : Nat) (fa : List Fa) (fn : List DefD) (tf : List Defn) (ex : PySem.W.Frag → Bool) (ini : List IniD) : PySem.W.Hook where
  α := AlI
  obs := fun s => obsI n fa fn tf ex ini s.heap.get?
  val := fun w => valsI fn ini w
  says := fun w h => ∃ K : PySem.W.Frag, K.In h ∧ SaysI fa fn tf ex ini w h K
  of := fun _ _ e => ⟨_, frT_in, saysI_of e⟩
  keeps := fun _ _ _ ⟨K, hK, c⟩ k => ⟨K, PySem.W.Frag.In.keeps hK k, ⟨⟨c.x.t, c.x.more, c.x.hd, c.x.out, fun p hp => k _ _ (c.x.empty p hp)⟩, c.i⟩⟩
theorem obsI_eq {n : Nat} {fa : List Fa} {fn : List DefD} {tf : List Defn} {ex : PySem.W.Frag → Bool} {ini : List IniD} {g : Addr → Option Obj} {s : Shared} (h : ∀ a, g a = s.heap.get? a) : obsI n fa fn tf ex ini g = (hookI n fa fn tf ex ini).obs s := by
  rw [show g = s.heap.get? from funext h] <;> rfl
/-! ### what it says of such a class -/
theorem clsX_ok {K : PySem.W.Frag} {C : Addr} (c : clsX K C = true) : ∃ nm q N bs bm sn sub ab col dd k0 k1 k2 k3 k5, K.lookup C = some (excClassObj nm q C N bs bm true sn sub ab col dd k0 k1 k2 k3 k5 "ValueError.__new__") ∧ PySem.HandSPX.refsVE bm = true := by
  unfold clsX at c
  split at c
  · rename_i tc dd cd sl ho
    have ct := (ba c).1
    replace c := (ba c).2
    have et := of_decide_eq_true ct
    subst et
    clear ct
    split at c
    · rename_i C' bm k0 k1 k2 k3 n k5 hm hs
      obtain ⟨q1, c⟩ := ba c
      obtain ⟨q2, c⟩ := ba c
      obtain ⟨q3, c⟩ := ba c
      obtain ⟨q4, q5⟩ := ba c
      have e1 := of_decide_eq_true q1
      have e2 := of_decide_eq_true q2
      subst e1 e2
      obtain ⟨nm, bs, mro, ns, qn, hd, sn, sub, ab, col, del⟩ := cd
      dsimp only at hm q3 q4
      have q3' : del = false := by simpa using q3
      subst hm q3' q4
      have hsl : sl = #[k0, k1, k2, k3, some (.builtin "ValueError.__new__"), k5] := by
        obtain ⟨l⟩ := sl
        simp only at hs
        rw [hs]
      subst hsl
      exact ⟨nm, qn, ns, bs, bm, sn, sub, ab, col, dd, k0, k1, k2, k3, k5, ho, q5⟩
    · cases c
  · cases c
theorem arr2 {vs : Array Value} {a b c : Value} {r : List Value} (h : vs.toList = a :: b :: c :: r) : vs[2]? = some c := by
  obtain ⟨l⟩ := vs
  simp only at h
  rw [h]
  rfl
/-- the shape of the text's __init__ -/
def ShI (st : Stmt) (f text : Str) : Prop := ∃ (a1 a2 p0 p1 p2 p3 p4 p5 q1 q2 q3 q4 : Pos) (k : Nat), defArgs st = iniA f a1 a2 ∧ defBody st = iniB f text p0 p1 p2 p3 p4 p5 q1 q2 q3 q4 k ∧ defScope st = iniS f ∧ (p2.endLine == p4.line) = true
theorem p_code {K : PySem.W.Frag} {v : Value} (c : (match v with
      | .ref c => (match K.lookup c with
        | some ⟨_, _, .fields vs, _⟩ => (match vs.toList with
          | _ :: _ :: .str z _ :: _ => decide (z = "/claim/cut.py")
          | _ => false)
        | _ => false)
      | _ => false) = true) : ∃ (cda : Addr) (ccl : Value) (cdd : Option Addr) (vs : Array Value) (ccs : Array (Option Value)) (tf : Tok), v = .ref cda ∧ K.lookup cda = some ⟨ccl, cdd, .fields vs, ccs⟩ ∧ vs[2]? = some (.str "/claim/cut.py" tf) := by
  cases v with
  | ref cda =>
    dsimp only at c
    generalize hl : K.lookup cda = lk at c
    split at c
    · rename_i u1 u2 vs u3
      split at c
      · rename_i y1 y2 z tf rr hv
        have ez := of_decide_eq_true c
        subst ez
        exact ⟨cda, _, _, vs, _, tf, rfl, hl, arr2 hv⟩
      · cases c
    · cases c
  | _ => cases c
theorem p_cell {K : PySem.W.Frag} {l : List (Str × Addr)} {D : Addr} (c : (match l with
      | [(_, c)] => (match K.lookup c with
        | some ⟨_, _, .cell (some (.ref C)), _⟩ => decide (C = D)
        | _ => false)
      | _ => false) = true) : ∃ (n : Str) (cc : Addr) (cl : Value) (cld : Option Addr) (csl : Array (Option Value)), l = [(n, cc)] ∧ K.lookup cc = some ⟨cl, cld, .cell (some (.ref D)), csl⟩ := by
  split at c
  · rename_i n cc
    generalize hl : K.lookup cc = lk at c
    split at c
    · rename_i u1 u2 C u3
      have eC := of_decide_eq_true c
      subst eC
      exact ⟨n, cc, _, _, _, rfl, hl⟩
    · cases c
  · cases c
theorem ini_fn {K : PySem.W.Frag} {x f text : Str} {st : Stmt} (sh : ShI st f text) (e : fnI K x = valI (x, st)) (c : iniX K x = true) :
    ∃ (oc kV doc pm ct ccl cl : Value) (od an cdd cld : Option Addr) (osl ccs csl : Array (Option Value)) (qual : Str) (cda cc : Addr) (vs : Array Value) (tf : Tok) (a1 a2 p0 p1 p2 p3 p4 p5 q1 q2 q3 q4 : Pos) (k : Nat),
    K.lookup (ma K (ga K x) "__init__") = some ⟨oc, od, .func (PySem.W.fnX "__init__" qual (iniA f a1 a2) (iniB f text p0 p1 p2 p3 p4 p5 q1 q2 q3 q4 k) (iniS f) [("__class__", cc)] .none kV doc pm an (.ref cda) ct), osl⟩ ∧ PySem.W.codeIn K (.ref cda) qual = true ∧
    K.lookup cda = some ⟨ccl, cdd, .fields vs, ccs⟩ ∧ vs[2]? = some (.str "/claim/cut.py" tf) ∧ K.lookup cc = some ⟨cl, cld, .cell (some (.ref (ga K x))), csl⟩ ∧ (p2.endLine == p4.line) = true := by
  unfold fnI at e
  unfold iniX at c
  generalize hl : K.lookup (ma K (ga K x) "__init__") = lk at e c
  cases lk with
  | none => cases c
  | some o =>
    obtain ⟨oc, od, dt, osl⟩ := o
    cases dt with
    | func fd =>
      obtain ⟨n1, n2, n3, n4, n5, n6, n7, n8, n9, n10, n11, n12, n13, n14, n15⟩ := fd
      have e2 : (some (n1, n2, n3, n4, n5, n6, n7.map (·.1), n15) : FnI) = (some (("__init__" : Str), x ++ ".__init__", defArgs st, FuncBody.stmts (defBody st), defScope st, mainGlobals, [("__class__" : Str)], builtinsNs) : FnI) := e
      simp only [Option.some.injEq, Prod.mk.injEq] at e2
      obtain ⟨h1, h2, h3, h4, h5, h6, h7, h8⟩ := e2
      dsimp only at c
      have c0 : n8 = .none := of_decide_eq_true (ba c).1
      replace c := (ba c).2
      subst c0
      have c1 := (ba c).1
      obtain ⟨cda, ccl, cdd, vs, ccs, tf, r1, r2, r3⟩ := p_code (ba (ba c).2).1
      obtain ⟨n, cc, cl, cld, csl, r4, r5⟩ := p_cell (ba (ba c).2).2
      clear c e
      subst r1 r4
      have hn : n = ("__class__" : Str) := (List.cons.inj h7).1
      obtain ⟨a1, a2, p0, p1, p2, p3, p4, p5, q1, q2, q3, q4, k, s1, s2, s3, s4⟩ := sh
      rw [s1] at h3
      rw [s2] at h4
      rw [s3] at h5
      subst h1 h2 h3 h4 h5 h6 h8 hn
      exact ⟨oc, n9, n10, n11, n14, ccl, cl, od, n12, cdd, cld, osl, ccs, csl, _, cda, cc, vs, tf, a1, a2, p0, p1, p2, p3, p4, p5, q1, q2, q3, q4, k, rfl, c1, r2, r3, r5, s4⟩
    | _ => cases c
/-- a class whose errors are made by its own __init__, and raised -/
structure IniC (K : PySem.W.Frag) (C fI : Addr) (f text file : Str) : Prop where
  at_ : IniAt K C fI f text file
  sb : PySem.W.subIn K (.ref C) (.type "BaseException") = some true
  ty : PySem.W.typeIn K (.ref C) = some (.type "type")
theorem ini_at {K : PySem.W.Frag} {x f text : Str} {st : Stmt} (sh : ShI st f text) (e : fnI K x = valI (x, st)) (c : initE K x f = true) : IniC K (ga K x) (ma K (ga K x) "__init__") f text "/claim/cut.py" := by
  unfold initE at c
  obtain ⟨c1, c⟩ := ba c
  obtain ⟨c2, c⟩ := ba c
  obtain ⟨c3, c⟩ := ba c
  obtain ⟨c4, c⟩ := ba c
  obtain ⟨c5, c⟩ := ba c
  obtain ⟨c6, c⟩ := ba c
  obtain ⟨c7, c⟩ := ba c
  obtain ⟨c8, c⟩ := ba c
  obtain ⟨c9, c⟩ := ba c
  obtain ⟨c10, c11⟩ := ba c
  exact ⟨⟨eqO_ok c1, eqO_ok c2, eqO_ok c3, by simpa [PySem.W.isFn] using c4, c8, clsX_ok c6, eqO_ok c5, eqO_ok c11, ini_fn sh e c7⟩, of_decide_eq_true c9, of_decide_eq_true c10⟩
end My
/-! the head: facts by names, one run (printed by genhd.py) -/
namespace My
open PySem PySem.Spec PyProof.Rows L2 He
def d_is_whole : DefD := ⟨("is_whole", none), "is_whole", "is_whole", defArgs s_is_whole, defBody s_is_whole, defScope s_is_whole, [], []⟩
def d_is_number : DefD := ⟨("is_number", none), "is_number", "is_number", defArgs s_is_number, defBody s_is_number, defScope s_is_number, [], []⟩
def d_is_rising : DefD := ⟨("is_rising", none), "is_rising", "is_rising", defArgs s_is_rising, defBody s_is_rising, defScope s_is_rising, [], []⟩
def d_is_pair_of : DefD := ⟨("is_pair_of", none), "is_pair_of", "is_pair_of", defArgs s_is_pair_of, defBody s_is_pair_of, defScope s_is_pair_of, [], []⟩
def d_need_net : DefD := ⟨("need_net", none), "need_net", "need_net", defArgs s_need_net, defBody s_need_net, defScope s_need_net, [], []⟩
def d_are_places : DefD := ⟨("are_places", none), "are_places", "are_places", defArgs s_are_places, defBody s_are_places, defScope s_are_places, [], []⟩
def d_is_place : DefD := ⟨("is_place", none), "is_place", "is_place", defArgs s_is_place, defBody s_is_place, defScope s_is_place, [], []⟩
def d_need_places : DefD := ⟨("need_places", none), "need_places", "need_places", defArgs s_need_places, defBody s_need_places, defScope s_need_places, [], []⟩
def d_places_text : DefD := ⟨("places_text", none), "places_text", "places_text", defArgs s_places_text, defBody s_places_text, defScope s_places_text, [], []⟩
def d_number_of : DefD := ⟨("number_of", none), "number_of", "number_of", defArgs s_number_of, defBody s_number_of, defScope s_number_of, [], []⟩
def d_lines_of : DefD := ⟨("lines_of", none), "lines_of", "lines_of", defArgs s_lines_of, defBody s_lines_of, defScope s_lines_of, [], []⟩
def d_numbers_behind : DefD := ⟨("numbers_behind", none), "numbers_behind", "numbers_behind", defArgs s_numbers_behind, defBody s_numbers_behind, defScope s_numbers_behind, [], []⟩
def d_places_of_text : DefD := ⟨("places_of_text", none), "places_of_text", "places_of_text", defArgs s_places_of_text, defBody s_places_of_text, defScope s_places_of_text, [], []⟩
def d_law_begun : DefD := ⟨("_law_begun", none), "_law_begun", "_law_begun", defArgs s_law_begun, defBody s_law_begun, defScope s_law_begun, [], []⟩
def d_law_blended : DefD := ⟨("_law_blended", none), "_law_blended", "_law_blended", defArgs s_law_blended, defBody s_law_blended, defScope s_law_blended, [], []⟩
def d_law_draw : DefD := ⟨("_law_draw", none), "_law_draw", "_law_draw", defArgs s_law_draw, defBody s_law_draw, defScope s_law_draw, [], []⟩
def d_law_pick : DefD := ⟨("_law_pick", none), "_law_pick", "_law_pick", defArgs s_law_pick, defBody s_law_pick, defScope s_law_pick, [], []⟩
def d_law_mixed : DefD := ⟨("_law_mixed", none), "_law_mixed", "_law_mixed", defArgs s_law_mixed, defBody s_law_mixed, defScope s_law_mixed, [], []⟩
def d_law_caught : DefD := ⟨("_law_caught", none), "_law_caught", "_law_caught", defArgs s_law_caught, defBody s_law_caught, defScope s_law_caught, [], []⟩
def d_law_nt_ties : DefD := ⟨("_law_nt_ties", none), "_law_nt_ties", "_law_nt_ties", defArgs s_law_nt_ties, defBody s_law_nt_ties, defScope s_law_nt_ties, [], []⟩
def d_law_nt_no_net : DefD := ⟨("_law_nt_no_net", none), "_law_nt_no_net", "_law_nt_no_net", defArgs s_law_nt_no_net, defBody s_law_nt_no_net, defScope s_law_nt_no_net, [], []⟩
def d_law_st_no_places : DefD := ⟨("_law_st_no_places", none), "_law_st_no_places", "_law_st_no_places", defArgs s_law_st_no_places, defBody s_law_st_no_places, defScope s_law_st_no_places, [], []⟩
def d_law_k90_number : DefD := ⟨("_law_k90_number", none), "_law_k90_number", "_law_k90_number", defArgs s_law_k90_number, defBody s_law_k90_number, defScope s_law_k90_number, [], []⟩
def d_law_k90_due : DefD := ⟨("_law_k90_due", none), "_law_k90_due", "_law_k90_due", defArgs s_law_k90_due, defBody s_law_k90_due, defScope s_law_k90_due, [], []⟩
def d_law : DefD := ⟨("law", none), "law", "law", defArgs s_law, defBody s_law, defScope s_law, [], []⟩
def d_Net_init : DefD := ⟨("Net", some "__init__"), "__init__", "Net.__init__", defArgs s_Net_init, defBody s_Net_init, defScope s_Net_init, [], []⟩
def d_Net_eq : DefD := ⟨("Net", some "__eq__"), "__eq__", "Net.__eq__", defArgs s_Net_eq, defBody s_Net_eq, defScope s_Net_eq, [], []⟩
def fnD0 : List DefD := [d_is_whole, d_is_number, d_is_rising, d_is_pair_of, d_need_net, d_are_places, d_is_place, d_need_places, d_places_text, d_number_of, d_lines_of, d_numbers_behind, d_places_of_text, d_law_begun, d_law_blended, d_law_draw, d_law_pick, d_law_mixed, d_law_caught, d_law_nt_ties]
def fnD1 : List DefD := [d_law_nt_no_net, d_law_st_no_places, d_law_k90_number, d_law_k90_due, d_law, d_Net_init, d_Net_eq]
def fnD : List DefD := fnD0 ++ fnD1
def faL0 : List Fa := [.glo "is_whole", .glo "is_number", .glo "is_rising", .glo "is_pair_of", .glo "need_net", .glo "are_places", .glo "is_place", .glo "need_places", .glo "places_text", .glo "number_of", .glo "lines_of", .glo "numbers_behind", .glo "places_of_text", .glo "_law_begun", .glo "_law_blended", .glo "_law_draw", .glo "_law_pick", .glo "_law_mixed", .glo "_law_caught", .glo "_law_nt_ties"]
def faL1 : List Fa := [.glo "_law_nt_no_net", .glo "_law_st_no_places", .glo "_law_k90_number", .glo "_law_k90_due", .glo "law", .glo "DrawError", .glo "BadMany", .glo "BadNet", .glo "BadPlaces", .glo "BadText", .glo "BadTies", .glo "Net", .free "ValueError", .free "abs", .free "all", .free "any", .free "bool", .free "enumerate", .free "int", .free "isinstance"]
def faL2 : List Fa := [.free "len", .free "list", .free "max", .free "min", .free "range", .free "repr", .free "set", .free "sorted", .free "str", .free "super", .free "tuple", .free "zip", .exc "DrawError", .exc "BadMany", .exc "BadNet", .exc "BadPlaces", .exc "BadTies", .int "MOST_POINTS" 24, .int "MOST_PLACE_straight" 1000000, .str "DIGITS" "0123456789"]
def faL3 : List Fa := [.int "MOST_PLACE_texts" 1000000, .exm "DrawError" "DrawError" true, .exm "BadMany" "DrawError" true, .exm "BadNet" "DrawError" true, .exm "BadPlaces" "DrawError" true, .exm "BadText" "DrawError" true, .exm "BadTies" "DrawError" true, .cls "Net", .mkr "Net", .noat "Net" "many", .noat "Net" "ties"]
def faL : List Fa := faL0 ++ faL1 ++ faL2 ++ faL3
def errN0 : List Str := ["DrawError", "BadMany", "BadNet", "BadPlaces", "BadText", "BadTies"]
def errN : List Str := errN0
def eqN0 : List Str := ["Net"]
def eqN : List Str := eqN0
def clsN0 : List Str := ["Net"]
def clsN : List Str := clsN0
def tabF0 : List Defn := [("law", none)]
def tabF : List Defn := tabF0
/-- what isinstance asks of the error class x -/
def excB (K : PySem.W.Frag) (x : Str) : Bool :=
  eqO (PySem.W.findIn K (.ref (ga K x)) "__getattribute__") (some (some (.builtin "BaseException.__getattribute__"))) &&
  (eqO (PySem.W.findIn K (.ref (ga K x)) "__getattr__") (some none) &&
  (eqO (PySem.W.findIn K (.ref (ga K x)) "__class__") (some (some (.builtin "object.__class__"))) &&
  (PySem.W.hasDictIn K (ga K x) && decide (PySem.W.mroIn K (ga K x) (.type "object") = some true))))
/-- .. of the class x -/
def insB (K : PySem.W.Frag) (x : Str) : Bool :=
  eqO (PySem.W.findIn K (.ref (ga K x)) "__class__") (some (some (.builtin "object.__class__"))) && decide (PySem.W.mroIn K (ga K x) (.type "object") = some true)
def kitN : List String := ["NoneType", "int", "bool", "tuple", "list", "dict", "str"]
/-- what isinstance of built-in values answers for the class x -/
def nobB (K : PySem.W.Frag) (x : Str) : Bool := kitN.all fun t => PySem.W.kitOne K (.type t) (.ref (ga K x)) == some false
/-- what isinstance answers: None and the error class x; an error of the class x and all error classes; own == of a class -/
def knd0 (K : PySem.W.Frag) (x : Str) : Bool := decide (PySem.W.kitOne K (.type "NoneType") (.ref (ga K x)) = some false)
def kndB (K : PySem.W.Frag) (x : Str) : Bool := (errN.all fun y => decide (PySem.W.kitOne K (.ref (ga K x)) (.ref (ga K y)) = some (decide (y = x) || decide (y = ("DrawError" : Str))))) && decide (PySem.W.kitOne K (.ref (ga K x)) (.type "ValueError") = some true)
def eqB (K : PySem.W.Frag) (x : Str) : Bool := eqO (PySem.W.findIn K (.ref (ga K x)) "__eq__") (some (some (.ref (ma K (ga K x) "__eq__")))) && PySem.W.isFn K (.ref (ma K (ga K x) "__eq__"))
/-- whose own == goes first; instances of one class are none of another -/
def ownB (K : PySem.W.Frag) (x : Str) : Bool := (kitN.all fun t => PySem.W.notFirst K (ga K x) (.type t)) && clsN.all fun y => decide (y = x) || decide (PySem.W.kitOne K (.ref (ga K y)) (.ref (ga K x)) = some false)
/-- the tables stand apart -/
def tabU (K : PySem.W.Frag) : Bool := tabF.all fun p => tabF.all fun q => decide (p = q) || decide ((cT K p).2 ≠ (cT K q).2)
def exA0 (K : PySem.W.Frag) : Bool :=
  eqO (PySem.W.specialIn K (.builtin "object.__class__") "__get__") (some (some (.builtin "getset_descriptor.__get__"))) &&
  (decide (PySem.W.takesIn K (.builtin "object.__class__") = some true) && (errN.all (excB K) && (clsN.all (insB K) && (clsN.all (nobB K) && (errN.all (knd0 K) && (errN.all (kndB K) && (eqN.all (eqB K) && (clsN.all (ownB K) && tabU K))))))))
def exA (K : PySem.W.Frag) : Bool := exA0 K && (initE K "BadText" "line")
def iniD : List IniD := [("BadText", inClass (topS 9) 0)]
abbrev R : PySem.W.OpenRow := PySem.W.OpenLaw.row PySem.Challenge.rw_flatdrawn_k90_whole_texts_of_places
abbrev hk : PySem.W.Hook := hookI 5 faL fnD tabF exA iniD
def ob (s : PySem.W.SharedT) : AlI := obsI 5 faL fnD tabF exA iniD (HandSHeadRun.getT s)
theorem ob_eq (s : PySem.W.SharedT) : ob s = hk.obs s.abs := obsI_eq (HandSHeadRun.getT_eq s)
def looseN0 : List Str := ["is_whole", "is_number", "is_rising", "DrawError", "BadMany", "BadNet", "BadPlaces", "BadText", "BadTies", "MOST_POINTS", "is_pair_of", "Net", "need_net", "MOST_PLACE_straight", "are_places", "is_place", "need_places", "DIGITS", "MOST_PLACE_texts", "places_text"]
def looseN1 : List Str := ["number_of", "lines_of", "numbers_behind", "places_of_text", "_law_begun", "_law_blended", "_law_draw", "_law_pick", "_law_mixed", "_law_caught", "_law_nt_ties", "_law_nt_no_net", "_law_st_no_places", "_law_k90_number", "_law_k90_due"]
def looseN : List Str := looseN0 ++ looseN1
theorem run (w : World) : HandSHeadRun.RunEq R (PySem.W.view R.prog [41]) hk ob 15000 looseN w := by
  intro os
  kernel_rfl
section
variable {w : World} {h : Heap} {K : PySem.W.Frag} {mg : Str → Option Value}
theorem fun_of0 {x qual : Str} {st : Stmt} {f : Addr} {fd : FuncData} {kws : List (Str × V)} (F : FunD K x qual (defArgs st) (defBody st) (defScope st) [] kws f fd) : Fun K x qual st f fd := by
  obtain ⟨⟨oc, od, dV, kV, doc, pm, an, cdv, ct, osl, e, l, c, hd, _⟩, kp⟩ := F
  rcases hd with ⟨_, h⟩ | ⟨h, _⟩
  · subst h
    exact ⟨⟨oc, od, kV, doc, pm, an, cdv, ct, osl, e, l, c⟩, kp⟩
  · exact absurd rfl h
abbrev SaysL (w : World) (h : Heap) (K : PySem.W.Frag) : Prop := SaysX faL fnD [] tabF exA w h K
theorem hd_is_whole (c : SaysL w h K) (X : K.In h) (G : h.Ns mainGlobals mg) : (∃ fd, Fun K "is_whole" "is_whole" s_is_whole (ga K "is_whole") fd) ∧ mg "is_whole" = some (.ref (ga K "is_whole")) :=
  ⟨let ⟨fd, F⟩ := c.t.d.def_ 0 (d := d_is_whole) rfl; ⟨fd, fun_of0 (x := "is_whole") (qual := "is_whole") (st := s_is_whole) (kws := []) F⟩, glo_ok X G (c.t.d.fact 0 (f := .glo "is_whole") rfl)⟩
theorem hd_is_number (c : SaysL w h K) (X : K.In h) (G : h.Ns mainGlobals mg) : (∃ fd, Fun K "is_number" "is_number" s_is_number (ga K "is_number") fd) ∧ mg "is_number" = some (.ref (ga K "is_number")) :=
  ⟨let ⟨fd, F⟩ := c.t.d.def_ 1 (d := d_is_number) rfl; ⟨fd, fun_of0 (x := "is_number") (qual := "is_number") (st := s_is_number) (kws := []) F⟩, glo_ok X G (c.t.d.fact 1 (f := .glo "is_number") rfl)⟩
theorem hd_is_rising (c : SaysL w h K) (X : K.In h) (G : h.Ns mainGlobals mg) : (∃ fd, Fun K "is_rising" "is_rising" s_is_rising (ga K "is_rising") fd) ∧ mg "is_rising" = some (.ref (ga K "is_rising")) :=
  ⟨let ⟨fd, F⟩ := c.t.d.def_ 2 (d := d_is_rising) rfl; ⟨fd, fun_of0 (x := "is_rising") (qual := "is_rising") (st := s_is_rising) (kws := []) F⟩, glo_ok X G (c.t.d.fact 2 (f := .glo "is_rising") rfl)⟩
theorem hd_is_pair_of (c : SaysL w h K) (X : K.In h) (G : h.Ns mainGlobals mg) : (∃ fd, Fun K "is_pair_of" "is_pair_of" s_is_pair_of (ga K "is_pair_of") fd) ∧ mg "is_pair_of" = some (.ref (ga K "is_pair_of")) :=
  ⟨let ⟨fd, F⟩ := c.t.d.def_ 3 (d := d_is_pair_of) rfl; ⟨fd, fun_of0 (x := "is_pair_of") (qual := "is_pair_of") (st := s_is_pair_of) (kws := []) F⟩, glo_ok X G (c.t.d.fact 3 (f := .glo "is_pair_of") rfl)⟩
theorem hd_need_net (c : SaysL w h K) (X : K.In h) (G : h.Ns mainGlobals mg) : (∃ fd, Fun K "need_net" "need_net" s_need_net (ga K "need_net") fd) ∧ mg "need_net" = some (.ref (ga K "need_net")) :=
  ⟨let ⟨fd, F⟩ := c.t.d.def_ 4 (d := d_need_net) rfl; ⟨fd, fun_of0 (x := "need_net") (qual := "need_net") (st := s_need_net) (kws := []) F⟩, glo_ok X G (c.t.d.fact 4 (f := .glo "need_net") rfl)⟩
theorem hd_are_places (c : SaysL w h K) (X : K.In h) (G : h.Ns mainGlobals mg) : (∃ fd, Fun K "are_places" "are_places" s_are_places (ga K "are_places") fd) ∧ mg "are_places" = some (.ref (ga K "are_places")) :=
  ⟨let ⟨fd, F⟩ := c.t.d.def_ 5 (d := d_are_places) rfl; ⟨fd, fun_of0 (x := "are_places") (qual := "are_places") (st := s_are_places) (kws := []) F⟩, glo_ok X G (c.t.d.fact 5 (f := .glo "are_places") rfl)⟩
theorem hd_is_place (c : SaysL w h K) (X : K.In h) (G : h.Ns mainGlobals mg) : (∃ fd, Fun K "is_place" "is_place" s_is_place (ga K "is_place") fd) ∧ mg "is_place" = some (.ref (ga K "is_place")) :=
  ⟨let ⟨fd, F⟩ := c.t.d.def_ 6 (d := d_is_place) rfl; ⟨fd, fun_of0 (x := "is_place") (qual := "is_place") (st := s_is_place) (kws := []) F⟩, glo_ok X G (c.t.d.fact 6 (f := .glo "is_place") rfl)⟩
theorem hd_need_places (c : SaysL w h K) (X : K.In h) (G : h.Ns mainGlobals mg) : (∃ fd, Fun K "need_places" "need_places" s_need_places (ga K "need_places") fd) ∧ mg "need_places" = some (.ref (ga K "need_places")) :=
  ⟨let ⟨fd, F⟩ := c.t.d.def_ 7 (d := d_need_places) rfl; ⟨fd, fun_of0 (x := "need_places") (qual := "need_places") (st := s_need_places) (kws := []) F⟩, glo_ok X G (c.t.d.fact 7 (f := .glo "need_places") rfl)⟩
theorem hd_places_text (c : SaysL w h K) (X : K.In h) (G : h.Ns mainGlobals mg) : (∃ fd, Fun K "places_text" "places_text" s_places_text (ga K "places_text") fd) ∧ mg "places_text" = some (.ref (ga K "places_text")) :=
  ⟨let ⟨fd, F⟩ := c.t.d.def_ 8 (d := d_places_text) rfl; ⟨fd, fun_of0 (x := "places_text") (qual := "places_text") (st := s_places_text) (kws := []) F⟩, glo_ok X G (c.t.d.fact 8 (f := .glo "places_text") rfl)⟩
theorem hd_number_of (c : SaysL w h K) (X : K.In h) (G : h.Ns mainGlobals mg) : (∃ fd, Fun K "number_of" "number_of" s_number_of (ga K "number_of") fd) ∧ mg "number_of" = some (.ref (ga K "number_of")) :=
  ⟨let ⟨fd, F⟩ := c.t.d.def_ 9 (d := d_number_of) rfl; ⟨fd, fun_of0 (x := "number_of") (qual := "number_of") (st := s_number_of) (kws := []) F⟩, glo_ok X G (c.t.d.fact 9 (f := .glo "number_of") rfl)⟩
theorem hd_lines_of (c : SaysL w h K) (X : K.In h) (G : h.Ns mainGlobals mg) : (∃ fd, Fun K "lines_of" "lines_of" s_lines_of (ga K "lines_of") fd) ∧ mg "lines_of" = some (.ref (ga K "lines_of")) :=
  ⟨let ⟨fd, F⟩ := c.t.d.def_ 10 (d := d_lines_of) rfl; ⟨fd, fun_of0 (x := "lines_of") (qual := "lines_of") (st := s_lines_of) (kws := []) F⟩, glo_ok X G (c.t.d.fact 10 (f := .glo "lines_of") rfl)⟩
theorem hd_numbers_behind (c : SaysL w h K) (X : K.In h) (G : h.Ns mainGlobals mg) : (∃ fd, Fun K "numbers_behind" "numbers_behind" s_numbers_behind (ga K "numbers_behind") fd) ∧ mg "numbers_behind" = some (.ref (ga K "numbers_behind")) :=
  ⟨let ⟨fd, F⟩ := c.t.d.def_ 11 (d := d_numbers_behind) rfl; ⟨fd, fun_of0 (x := "numbers_behind") (qual := "numbers_behind") (st := s_numbers_behind) (kws := []) F⟩, glo_ok X G (c.t.d.fact 11 (f := .glo "numbers_behind") rfl)⟩
theorem hd_places_of_text (c : SaysL w h K) (X : K.In h) (G : h.Ns mainGlobals mg) : (∃ fd, Fun K "places_of_text" "places_of_text" s_places_of_text (ga K "places_of_text") fd) ∧ mg "places_of_text" = some (.ref (ga K "places_of_text")) :=
  ⟨let ⟨fd, F⟩ := c.t.d.def_ 12 (d := d_places_of_text) rfl; ⟨fd, fun_of0 (x := "places_of_text") (qual := "places_of_text") (st := s_places_of_text) (kws := []) F⟩, glo_ok X G (c.t.d.fact 12 (f := .glo "places_of_text") rfl)⟩
theorem hd_law_begun (c : SaysL w h K) (X : K.In h) (G : h.Ns mainGlobals mg) : (∃ fd, Fun K "_law_begun" "_law_begun" s_law_begun (ga K "_law_begun") fd) ∧ mg "_law_begun" = some (.ref (ga K "_law_begun")) :=
  ⟨let ⟨fd, F⟩ := c.t.d.def_ 13 (d := d_law_begun) rfl; ⟨fd, fun_of0 (x := "_law_begun") (qual := "_law_begun") (st := s_law_begun) (kws := []) F⟩, glo_ok X G (c.t.d.fact 13 (f := .glo "_law_begun") rfl)⟩
theorem hd_law_blended (c : SaysL w h K) (X : K.In h) (G : h.Ns mainGlobals mg) : (∃ fd, Fun K "_law_blended" "_law_blended" s_law_blended (ga K "_law_blended") fd) ∧ mg "_law_blended" = some (.ref (ga K "_law_blended")) :=
  ⟨let ⟨fd, F⟩ := c.t.d.def_ 14 (d := d_law_blended) rfl; ⟨fd, fun_of0 (x := "_law_blended") (qual := "_law_blended") (st := s_law_blended) (kws := []) F⟩, glo_ok X G (c.t.d.fact 14 (f := .glo "_law_blended") rfl)⟩
theorem hd_law_draw (c : SaysL w h K) (X : K.In h) (G : h.Ns mainGlobals mg) : (∃ fd, Fun K "_law_draw" "_law_draw" s_law_draw (ga K "_law_draw") fd) ∧ mg "_law_draw" = some (.ref (ga K "_law_draw")) :=
  ⟨let ⟨fd, F⟩ := c.t.d.def_ 15 (d := d_law_draw) rfl; ⟨fd, fun_of0 (x := "_law_draw") (qual := "_law_draw") (st := s_law_draw) (kws := []) F⟩, glo_ok X G (c.t.d.fact 15 (f := .glo "_law_draw") rfl)⟩
theorem hd_law_pick (c : SaysL w h K) (X : K.In h) (G : h.Ns mainGlobals mg) : (∃ fd, Fun K "_law_pick" "_law_pick" s_law_pick (ga K "_law_pick") fd) ∧ mg "_law_pick" = some (.ref (ga K "_law_pick")) :=
  ⟨let ⟨fd, F⟩ := c.t.d.def_ 16 (d := d_law_pick) rfl; ⟨fd, fun_of0 (x := "_law_pick") (qual := "_law_pick") (st := s_law_pick) (kws := []) F⟩, glo_ok X G (c.t.d.fact 16 (f := .glo "_law_pick") rfl)⟩
theorem hd_law_mixed (c : SaysL w h K) (X : K.In h) (G : h.Ns mainGlobals mg) : (∃ fd, Fun K "_law_mixed" "_law_mixed" s_law_mixed (ga K "_law_mixed") fd) ∧ mg "_law_mixed" = some (.ref (ga K "_law_mixed")) :=
  ⟨let ⟨fd, F⟩ := c.t.d.def_ 17 (d := d_law_mixed) rfl; ⟨fd, fun_of0 (x := "_law_mixed") (qual := "_law_mixed") (st := s_law_mixed) (kws := []) F⟩, glo_ok X G (c.t.d.fact 17 (f := .glo "_law_mixed") rfl)⟩
theorem hd_law_caught (c : SaysL w h K) (X : K.In h) (G : h.Ns mainGlobals mg) : (∃ fd, Fun K "_law_caught" "_law_caught" s_law_caught (ga K "_law_caught") fd) ∧ mg "_law_caught" = some (.ref (ga K "_law_caught")) :=
  ⟨let ⟨fd, F⟩ := c.t.d.def_ 18 (d := d_law_caught) rfl; ⟨fd, fun_of0 (x := "_law_caught") (qual := "_law_caught") (st := s_law_caught) (kws := []) F⟩, glo_ok X G (c.t.d.fact 18 (f := .glo "_law_caught") rfl)⟩
theorem hd_law_nt_ties (c : SaysL w h K) (X : K.In h) (G : h.Ns mainGlobals mg) : (∃ fd, Fun K "_law_nt_ties" "_law_nt_ties" s_law_nt_ties (ga K "_law_nt_ties") fd) ∧ mg "_law_nt_ties" = some (.ref (ga K "_law_nt_ties")) :=
  ⟨let ⟨fd, F⟩ := c.t.d.def_ 19 (d := d_law_nt_ties) rfl; ⟨fd, fun_of0 (x := "_law_nt_ties") (qual := "_law_nt_ties") (st := s_law_nt_ties) (kws := []) F⟩, glo_ok X G (c.t.d.fact 19 (f := .glo "_law_nt_ties") rfl)⟩
theorem hd_law_nt_no_net (c : SaysL w h K) (X : K.In h) (G : h.Ns mainGlobals mg) : (∃ fd, Fun K "_law_nt_no_net" "_law_nt_no_net" s_law_nt_no_net (ga K "_law_nt_no_net") fd) ∧ mg "_law_nt_no_net" = some (.ref (ga K "_law_nt_no_net")) :=
  ⟨let ⟨fd, F⟩ := c.t.d.def_ 20 (d := d_law_nt_no_net) rfl; ⟨fd, fun_of0 (x := "_law_nt_no_net") (qual := "_law_nt_no_net") (st := s_law_nt_no_net) (kws := []) F⟩, glo_ok X G (c.t.d.fact 20 (f := .glo "_law_nt_no_net") rfl)⟩
theorem hd_law_st_no_places (c : SaysL w h K) (X : K.In h) (G : h.Ns mainGlobals mg) : (∃ fd, Fun K "_law_st_no_places" "_law_st_no_places" s_law_st_no_places (ga K "_law_st_no_places") fd) ∧ mg "_law_st_no_places" = some (.ref (ga K "_law_st_no_places")) :=
  ⟨let ⟨fd, F⟩ := c.t.d.def_ 21 (d := d_law_st_no_places) rfl; ⟨fd, fun_of0 (x := "_law_st_no_places") (qual := "_law_st_no_places") (st := s_law_st_no_places) (kws := []) F⟩, glo_ok X G (c.t.d.fact 21 (f := .glo "_law_st_no_places") rfl)⟩
theorem hd_law_k90_number (c : SaysL w h K) (X : K.In h) (G : h.Ns mainGlobals mg) : (∃ fd, Fun K "_law_k90_number" "_law_k90_number" s_law_k90_number (ga K "_law_k90_number") fd) ∧ mg "_law_k90_number" = some (.ref (ga K "_law_k90_number")) :=
  ⟨let ⟨fd, F⟩ := c.t.d.def_ 22 (d := d_law_k90_number) rfl; ⟨fd, fun_of0 (x := "_law_k90_number") (qual := "_law_k90_number") (st := s_law_k90_number) (kws := []) F⟩, glo_ok X G (c.t.d.fact 22 (f := .glo "_law_k90_number") rfl)⟩
theorem hd_law_k90_due (c : SaysL w h K) (X : K.In h) (G : h.Ns mainGlobals mg) : (∃ fd, Fun K "_law_k90_due" "_law_k90_due" s_law_k90_due (ga K "_law_k90_due") fd) ∧ mg "_law_k90_due" = some (.ref (ga K "_law_k90_due")) :=
  ⟨let ⟨fd, F⟩ := c.t.d.def_ 23 (d := d_law_k90_due) rfl; ⟨fd, fun_of0 (x := "_law_k90_due") (qual := "_law_k90_due") (st := s_law_k90_due) (kws := []) F⟩, glo_ok X G (c.t.d.fact 23 (f := .glo "_law_k90_due") rfl)⟩
theorem hd_law (c : SaysL w h K) (X : K.In h) (G : h.Ns mainGlobals mg) : (∃ fd, Fun K "law" "law" s_law (ga K "law") fd) ∧ mg "law" = some (.ref (ga K "law")) :=
  ⟨let ⟨fd, F⟩ := c.t.d.def_ 24 (d := d_law) rfl; ⟨fd, fun_of0 (x := "law") (qual := "law") (st := s_law) (kws := []) F⟩, glo_ok X G (c.t.d.fact 24 (f := .glo "law") rfl)⟩
theorem hd_Net_init (c : SaysL w h K) : ∃ fd, Fun K "__init__" "Net.__init__" s_Net_init (ma K (ga K "Net") "__init__") fd :=
  let ⟨fd, F⟩ := c.t.d.def_ 25 (d := d_Net_init) rfl; ⟨fd, fun_of0 (x := "__init__") (qual := "Net.__init__") (st := s_Net_init) (kws := []) F⟩
theorem hd_Net_eq (c : SaysL w h K) : ∃ fd, Fun K "__eq__" "Net.__eq__" s_Net_eq (ma K (ga K "Net") "__eq__") fd :=
  let ⟨fd, F⟩ := c.t.d.def_ 26 (d := d_Net_eq) rfl; ⟨fd, fun_of0 (x := "__eq__") (qual := "Net.__eq__") (st := s_Net_eq) (kws := []) F⟩
theorem fr_ValueError (c : SaysL w h K) (X : K.In h) (G : h.Ns mainGlobals mg) : mg "ValueError" = none := free_ok X G (c.t.d.fact 32 (f := .free "ValueError") rfl)
theorem fr_abs (c : SaysL w h K) (X : K.In h) (G : h.Ns mainGlobals mg) : mg "abs" = none := free_ok X G (c.t.d.fact 33 (f := .free "abs") rfl)
theorem fr_all (c : SaysL w h K) (X : K.In h) (G : h.Ns mainGlobals mg) : mg "all" = none := free_ok X G (c.t.d.fact 34 (f := .free "all") rfl)
theorem fr_any (c : SaysL w h K) (X : K.In h) (G : h.Ns mainGlobals mg) : mg "any" = none := free_ok X G (c.t.d.fact 35 (f := .free "any") rfl)
theorem fr_bool (c : SaysL w h K) (X : K.In h) (G : h.Ns mainGlobals mg) : mg "bool" = none := free_ok X G (c.t.d.fact 36 (f := .free "bool") rfl)
theorem fr_enumerate (c : SaysL w h K) (X : K.In h) (G : h.Ns mainGlobals mg) : mg "enumerate" = none := free_ok X G (c.t.d.fact 37 (f := .free "enumerate") rfl)
theorem fr_int (c : SaysL w h K) (X : K.In h) (G : h.Ns mainGlobals mg) : mg "int" = none := free_ok X G (c.t.d.fact 38 (f := .free "int") rfl)
theorem fr_isinstance (c : SaysL w h K) (X : K.In h) (G : h.Ns mainGlobals mg) : mg "isinstance" = none := free_ok X G (c.t.d.fact 39 (f := .free "isinstance") rfl)
theorem fr_len (c : SaysL w h K) (X : K.In h) (G : h.Ns mainGlobals mg) : mg "len" = none := free_ok X G (c.t.d.fact 40 (f := .free "len") rfl)
theorem fr_list (c : SaysL w h K) (X : K.In h) (G : h.Ns mainGlobals mg) : mg "list" = none := free_ok X G (c.t.d.fact 41 (f := .free "list") rfl)
theorem fr_max (c : SaysL w h K) (X : K.In h) (G : h.Ns mainGlobals mg) : mg "max" = none := free_ok X G (c.t.d.fact 42 (f := .free "max") rfl)
theorem fr_min (c : SaysL w h K) (X : K.In h) (G : h.Ns mainGlobals mg) : mg "min" = none := free_ok X G (c.t.d.fact 43 (f := .free "min") rfl)
theorem fr_range (c : SaysL w h K) (X : K.In h) (G : h.Ns mainGlobals mg) : mg "range" = none := free_ok X G (c.t.d.fact 44 (f := .free "range") rfl)
theorem fr_repr (c : SaysL w h K) (X : K.In h) (G : h.Ns mainGlobals mg) : mg "repr" = none := free_ok X G (c.t.d.fact 45 (f := .free "repr") rfl)
theorem fr_set (c : SaysL w h K) (X : K.In h) (G : h.Ns mainGlobals mg) : mg "set" = none := free_ok X G (c.t.d.fact 46 (f := .free "set") rfl)
theorem fr_sorted (c : SaysL w h K) (X : K.In h) (G : h.Ns mainGlobals mg) : mg "sorted" = none := free_ok X G (c.t.d.fact 47 (f := .free "sorted") rfl)
theorem fr_str (c : SaysL w h K) (X : K.In h) (G : h.Ns mainGlobals mg) : mg "str" = none := free_ok X G (c.t.d.fact 48 (f := .free "str") rfl)
theorem fr_super (c : SaysL w h K) (X : K.In h) (G : h.Ns mainGlobals mg) : mg "super" = none := free_ok X G (c.t.d.fact 49 (f := .free "super") rfl)
theorem fr_tuple (c : SaysL w h K) (X : K.In h) (G : h.Ns mainGlobals mg) : mg "tuple" = none := free_ok X G (c.t.d.fact 50 (f := .free "tuple") rfl)
theorem fr_zip (c : SaysL w h K) (X : K.In h) (G : h.Ns mainGlobals mg) : mg "zip" = none := free_ok X G (c.t.d.fact 51 (f := .free "zip") rfl)
theorem ct_MOST_POINTS (c : SaysL w h K) (X : K.In h) (G : h.Ns mainGlobals mg) : ∃ t, mg "MOST_POINTS" = some (.int (24) t) := int_ok X G (c.t.d.fact 57 (f := .int "MOST_POINTS" (24)) rfl)
theorem ct_MOST_PLACE_straight (c : SaysL w h K) (X : K.In h) (G : h.Ns mainGlobals mg) : ∃ t, mg "MOST_PLACE_straight" = some (.int (1000000) t) := int_ok X G (c.t.d.fact 58 (f := .int "MOST_PLACE_straight" (1000000)) rfl)
theorem ct_MOST_PLACE_texts (c : SaysL w h K) (X : K.In h) (G : h.Ns mainGlobals mg) : ∃ t, mg "MOST_PLACE_texts" = some (.int (1000000) t) := int_ok X G (c.t.d.fact 60 (f := .int "MOST_PLACE_texts" (1000000)) rfl)
theorem ct_DIGITS (c : SaysL w h K) (X : K.In h) (G : h.Ns mainGlobals mg) : ∃ t, mg "DIGITS" = some (.str "0123456789" t) := str_ok X G (c.t.d.fact 59 (f := .str "DIGITS" "0123456789") rfl)
theorem er_DrawError (c : SaysL w h K) (X : K.In h) (G : h.Ns mainGlobals mg) : mg "DrawError" = some (.ref (ga K "DrawError")) ∧ (PySem.W.excIn K (ga K "DrawError") veBase "ValueError.__new__" = true ∧ PySem.W.keepIn K (.ref (ga K "DrawError")) = true ∧ PySem.W.subIn K (.ref (ga K "DrawError")) (.type "BaseException") = some true ∧ PySem.W.typeIn K (.ref (ga K "DrawError")) = some (.type "type")) ∧ PySem.W.exmOne K (.ref (ga K "DrawError")) (.ref (ga K "DrawError")) = some true :=
  ⟨glo_ok X G (c.t.d.fact 25 (f := .glo "DrawError") rfl), exc_ok (c.t.d.fact 52 (f := .exc "DrawError") rfl), exm_ok (c.t.d.fact 61 (f := .exm "DrawError" "DrawError" true) rfl)⟩
theorem er_BadMany (c : SaysL w h K) (X : K.In h) (G : h.Ns mainGlobals mg) : mg "BadMany" = some (.ref (ga K "BadMany")) ∧ (PySem.W.excIn K (ga K "BadMany") veBase "ValueError.__new__" = true ∧ PySem.W.keepIn K (.ref (ga K "BadMany")) = true ∧ PySem.W.subIn K (.ref (ga K "BadMany")) (.type "BaseException") = some true ∧ PySem.W.typeIn K (.ref (ga K "BadMany")) = some (.type "type")) ∧ PySem.W.exmOne K (.ref (ga K "BadMany")) (.ref (ga K "DrawError")) = some true :=
  ⟨glo_ok X G (c.t.d.fact 26 (f := .glo "BadMany") rfl), exc_ok (c.t.d.fact 53 (f := .exc "BadMany") rfl), exm_ok (c.t.d.fact 62 (f := .exm "BadMany" "DrawError" true) rfl)⟩
theorem er_BadNet (c : SaysL w h K) (X : K.In h) (G : h.Ns mainGlobals mg) : mg "BadNet" = some (.ref (ga K "BadNet")) ∧ (PySem.W.excIn K (ga K "BadNet") veBase "ValueError.__new__" = true ∧ PySem.W.keepIn K (.ref (ga K "BadNet")) = true ∧ PySem.W.subIn K (.ref (ga K "BadNet")) (.type "BaseException") = some true ∧ PySem.W.typeIn K (.ref (ga K "BadNet")) = some (.type "type")) ∧ PySem.W.exmOne K (.ref (ga K "BadNet")) (.ref (ga K "DrawError")) = some true :=
  ⟨glo_ok X G (c.t.d.fact 27 (f := .glo "BadNet") rfl), exc_ok (c.t.d.fact 54 (f := .exc "BadNet") rfl), exm_ok (c.t.d.fact 63 (f := .exm "BadNet" "DrawError" true) rfl)⟩
theorem er_BadPlaces (c : SaysL w h K) (X : K.In h) (G : h.Ns mainGlobals mg) : mg "BadPlaces" = some (.ref (ga K "BadPlaces")) ∧ (PySem.W.excIn K (ga K "BadPlaces") veBase "ValueError.__new__" = true ∧ PySem.W.keepIn K (.ref (ga K "BadPlaces")) = true ∧ PySem.W.subIn K (.ref (ga K "BadPlaces")) (.type "BaseException") = some true ∧ PySem.W.typeIn K (.ref (ga K "BadPlaces")) = some (.type "type")) ∧ PySem.W.exmOne K (.ref (ga K "BadPlaces")) (.ref (ga K "DrawError")) = some true :=
  ⟨glo_ok X G (c.t.d.fact 28 (f := .glo "BadPlaces") rfl), exc_ok (c.t.d.fact 55 (f := .exc "BadPlaces") rfl), exm_ok (c.t.d.fact 64 (f := .exm "BadPlaces" "DrawError" true) rfl)⟩
theorem er_BadTies (c : SaysL w h K) (X : K.In h) (G : h.Ns mainGlobals mg) : mg "BadTies" = some (.ref (ga K "BadTies")) ∧ (PySem.W.excIn K (ga K "BadTies") veBase "ValueError.__new__" = true ∧ PySem.W.keepIn K (.ref (ga K "BadTies")) = true ∧ PySem.W.subIn K (.ref (ga K "BadTies")) (.type "BaseException") = some true ∧ PySem.W.typeIn K (.ref (ga K "BadTies")) = some (.type "type")) ∧ PySem.W.exmOne K (.ref (ga K "BadTies")) (.ref (ga K "DrawError")) = some true :=
  ⟨glo_ok X G (c.t.d.fact 30 (f := .glo "BadTies") rfl), exc_ok (c.t.d.fact 56 (f := .exc "BadTies") rfl), exm_ok (c.t.d.fact 66 (f := .exm "BadTies" "DrawError" true) rfl)⟩
theorem cl_Net (c : SaysL w h K) (X : K.In h) (G : h.Ns mainGlobals mg) : mg "Net" = some (.ref (ga K "Net")) ∧ Cls K (ga K "Net") := ⟨glo_ok X G (c.t.d.fact 31 (f := .glo "Net") rfl), cls_ok (c.t.d.fact 67 (f := .cls "Net") rfl)⟩
theorem mk_Net (c : SaysL w h K) : Mk K (ga K "Net") (ma K (ga K "Net") "__init__") := mkr_ok (c.t.d.fact 68 (f := .mkr "Net") rfl)
theorem na_Net_many (c : SaysL w h K) : NoAttr K (ga K "Net") "many" := noat_ok (c.t.d.fact 69 (f := .noat "Net" "many") rfl)
theorem na_Net_ties (c : SaysL w h K) : NoAttr K (ga K "Net") "ties" := noat_ok (c.t.d.fact 70 (f := .noat "Net" "ties") rfl)
theorem ex_A (c : SaysL w h K) : PySem.W.specialIn K (.builtin "object.__class__") "__get__" = some (some (.builtin "getset_descriptor.__get__")) ∧ PySem.W.takesIn K (.builtin "object.__class__") = some true ∧ (∀ x ∈ errN, excB K x = true) ∧ (∀ x ∈ clsN, insB K x = true) ∧ ∀ x ∈ clsN, nobB K x = true := by
  have e : exA0 K = true := (ba c.more).1
  unfold exA0 at e
  obtain ⟨e1, e⟩ := ba e
  obtain ⟨e2, e⟩ := ba e
  obtain ⟨e3, e⟩ := ba e
  obtain ⟨e4, e5⟩ := ba e
  obtain ⟨e5, _⟩ := ba e5
  exact ⟨eqO_ok e1, of_decide_eq_true e2, fun x hx => List.all_eq_true.mp e3 x hx, fun x hx => List.all_eq_true.mp e4 x hx, fun x hx => List.all_eq_true.mp e5 x hx⟩
theorem exc_C (c : SaysL w h K) {x : Str} (hx : x ∈ errN) (sb : PySem.W.subIn K (.ref (ga K x)) (.type "BaseException") = some true) : ExcC K (ga K x) := by
  obtain ⟨e1, e2, e3, _, _⟩ := ex_A c
  have e := e3 x hx
  unfold excB at e
  obtain ⟨a1, e⟩ := ba e
  obtain ⟨a2, e⟩ := ba e
  obtain ⟨a3, e⟩ := ba e
  obtain ⟨a4, a5⟩ := ba e
  exact ⟨eqO_ok a1, eqO_ok a2, sb, a4, eqO_ok a3, e1, e2, of_decide_eq_true a5⟩
theorem ins_I (c : SaysL w h K) {x : Str} (hx : x ∈ clsN) : PySem.W.findIn K (.ref (ga K x)) "__class__" = some (some (.builtin "object.__class__")) ∧ PySem.W.mroIn K (ga K x) (.type "object") = some true := by
  obtain ⟨_, _, _, e4, _⟩ := ex_A c
  have e := e4 x hx
  unfold insB at e
  obtain ⟨a1, a2⟩ := ba e
  exact ⟨eqO_ok a1, of_decide_eq_true a2⟩
theorem ex_K (c : SaysL w h K) : (∀ x ∈ errN, knd0 K x = true) ∧ (∀ x ∈ errN, kndB K x = true) ∧ (∀ x ∈ eqN, eqB K x = true) ∧ ∀ x ∈ clsN, ownB K x = true := by
  have e : exA0 K = true := (ba c.more).1
  unfold exA0 at e
  obtain ⟨_, e⟩ := ba e
  obtain ⟨_, e⟩ := ba e
  obtain ⟨_, e⟩ := ba e
  obtain ⟨_, e⟩ := ba e
  obtain ⟨_, e⟩ := ba e
  obtain ⟨e6, e⟩ := ba e
  obtain ⟨e7, e⟩ := ba e
  obtain ⟨e8, e9⟩ := ba e
  obtain ⟨e9, _⟩ := ba e9
  exact ⟨fun x hx => List.all_eq_true.mp e6 x hx, fun x hx => List.all_eq_true.mp e7 x hx, fun x hx => List.all_eq_true.mp e8 x hx, fun x hx => List.all_eq_true.mp e9 x hx⟩
theorem kit_0 (c : SaysL w h K) {x : Str} (hx : x ∈ errN) : PySem.W.kitOne K (.type "NoneType") (.ref (ga K x)) = some false := of_decide_eq_true ((ex_K c).1 x hx)
theorem kit_E (c : SaysL w h K) {x y : Str} (hx : x ∈ errN) (hy : y ∈ errN) : PySem.W.kitOne K (.ref (ga K x)) (.ref (ga K y)) = some (decide (y = x) || decide (y = ("DrawError" : Str))) := by
  have e := (ex_K c).2.1 x hx
  unfold kndB at e
  exact of_decide_eq_true (List.all_eq_true.mp (ba e).1 y hy)
theorem kit_V (c : SaysL w h K) {x : Str} (hx : x ∈ errN) : PySem.W.kitOne K (.ref (ga K x)) (.type "ValueError") = some true := by
  have e := (ex_K c).2.1 x hx
  unfold kndB at e
  exact of_decide_eq_true (ba e).2
theorem eq_M (c : SaysL w h K) {x : Str} (hx : x ∈ eqN) : PySem.W.findIn K (.ref (ga K x)) "__eq__" = some (some (.ref (ma K (ga K x) "__eq__"))) ∧ PySem.W.isFn K (.ref (ma K (ga K x) "__eq__")) = true := by
  have e := (ex_K c).2.2.1 x hx
  unfold eqB at e
  exact ⟨eqO_ok (ba e).1, (ba e).2⟩
theorem own_T (c : SaysL w h K) {x : Str} (hx : x ∈ clsN) {t : String} (ht : t ∈ kitN) : PySem.W.notFirst K (ga K x) (.type t) = true := by
  have e := (ex_K c).2.2.2 x hx
  unfold ownB at e
  exact List.all_eq_true.mp (ba e).1 t ht
theorem own_K (c : SaysL w h K) {x y : Str} (hx : x ∈ clsN) (hy : y ∈ clsN) (ne : y ≠ x) : PySem.W.kitOne K (.ref (ga K y)) (.ref (ga K x)) = some false := by
  have e := (ex_K c).2.2.2 x hx
  unfold ownB at e
  have := List.all_eq_true.mp (ba e).2 y hy
  rw [decide_eq_false ne, Bool.false_or] at this
  exact of_decide_eq_true this
theorem tab_ne (c : SaysL w h K) {p q : Defn} (hp : p ∈ tabF) (hq : q ∈ tabF) (ne : p ≠ q) : (cT K p).2 ≠ (cT K q).2 := by
  have e : exA0 K = true := (ba c.more).1
  unfold exA0 at e
  obtain ⟨_, e⟩ := ba e
  obtain ⟨_, e⟩ := ba e
  obtain ⟨_, e⟩ := ba e
  obtain ⟨_, e⟩ := ba e
  obtain ⟨_, e⟩ := ba e
  obtain ⟨_, e⟩ := ba e
  obtain ⟨_, e⟩ := ba e
  obtain ⟨_, e⟩ := ba e
  obtain ⟨_, e⟩ := ba e
  unfold tabU at e
  have := List.all_eq_true.mp (List.all_eq_true.mp e p hp) q hq
  rw [decide_eq_false ne, Bool.false_or] at this
  exact of_decide_eq_true this
theorem sh_BadText : ShI (inClass (topS 9) 0) "line" "a line that cannot stand there" := ⟨_, _, _, _, _, _, _, _, _, _, _, _, _, by rfl, by rfl, by rfl, by decide +kernel⟩
theorem in_BadText (c : SaysI faL fnD tabF exA iniD w h K) (X : K.In h) (G : h.Ns mainGlobals mg) : mg "BadText" = some (.ref (ga K "BadText")) ∧ IniC K (ga K "BadText") (ma K (ga K "BadText") "__init__") "line" "a line that cannot stand there" "/claim/cut.py" := by
  refine ⟨glo_ok X G (c.x.t.d.fact 29 (f := .glo "BadText") rfl), ini_at sh_BadText ?_ (ba c.x.more).2⟩
  have e : [fnI K "BadText"] = [valI ("BadText", inClass (topS 9) 0)] := c.i
  injection e
theorem xm_BadText (c : SaysL w h K) : PySem.W.exmOne K (.ref (ga K "BadText")) (.ref (ga K "DrawError")) = some true := exm_ok (c.t.d.fact 65 (f := .exm "BadText" "DrawError" true) rfl)
end
end My
/-! the end of a law whose def holds lambdas and asks repr: its table, no repr under way -/
namespace L2
open PySem PySem.Spec PyProof.Rows
/-- a def's promise, kept where no repr is under way -/
structure FnOkG (P : Program) (w : World) (K : PySem.W.Frag) (mg : Str → Option Value) (base : Heap) (CX : CXT) (k : Nat) (f : Addr) (fd : FuncData) (ps : List Str) (sp : Sp) : Prop where
  len : ∀ vs H Q E, sp vs H Q E → vs.length = ps.length
  run : ∀ (A : Around) (outer : List Env) (s : Shared) (H : Hp) (args : Args) (us : List Value) (vs : List V) (Q : VK) (E : XK), A.guards = some [] → Room k A → Env0 P w K mg base A outer s H → BindsTo s fd args (ps.zip us) → Vals vs us → sp vs H Q E →
    codeAny (model P w) A (.call (.ref f) args) (CR CX outer P w H s Q E) s
section
variable {P : Program} {w : World} {K : PySem.W.Frag} {mg : Str → Option Value} {base : Heap} {CX : CXT}
/-- THE RULE for such a def -/
theorem okG {x qual : Str} {params : Arguments} {body : List Stmt} {scope : Scope} {f : Addr} {fd : FuncData} {N ps : List Str} {k : Nat} {sp : Sp}
    (F : ∃ (oc : Value) (od : Option Addr) (dV kV doc pm : Value) (an : Option Addr) (cdv ct : Value) (osl : Array (Option Value)), fd = PySem.W.fnOf x qual params body scope dV kV doc pm an cdv ct ∧ K.lookup f = some ⟨oc, od, .func fd, osl⟩ ∧ PySem.W.codeIn K cdv qual = true)
    (S : FnScope N ps scope) (len : ∀ vs H Q E, sp vs H Q E → vs.length = ps.length)
    (hbody : ∀ (cdv : Value), fd.code = cdv → ∀ (A : Around) (outer : List Env) (s : Shared) (H : Hp) (vs : List V) (Q : VK) (E : XK), A.guards = some [] → Room k (A.deeper (envOfC qual scope s.heap.objs.size f cdv)) → sp vs H Q E →
      ∃ t, PSs (cxOf CX P w K mg base N qual scope f cdv A outer s H E) body t ∧ t { nx := fun _ H' => Q .non H', rt := Q } (start N vs) H) : FnOkG P w K mg base CX (k + 1) f fd ps sp := by
  obtain ⟨oc, od, dV, kV, doc, pm, an, cdv, ct, osl, rfl, lk, hcd⟩ := F
  refine ⟨len, fun A outer s H args us vs Q E hg hr e0 hb rv hsp => ?_⟩
  have hl := len _ _ _ _ hsp
  have hkeep : ∀ b o, base.get? b = some o → s.heap.get? b = some o := fun b o e => (e0.bs b o e).1
  have KX : K.In s.heap := e0.mod.kin.keeps hkeep
  have lim : s.heap.NoLimit := e0.mod.nolimit.keeps hkeep
  refine codeAny_call_function hr.depth (KX _ _ lk) rfl S.co S.gen rfl (PySem.W.codeRec_of KX hcd) (hb _ _ _ _ ?_)
  refine wpAny_newFunctionEnv_cells S.kind (fun ⟨n, v⟩ hy => ?_) fun env he s1 ic => ?_
  · rcases S.par n (List.of_mem_zip hy).1 with q | q
    · exact .inl q
    · exact .inr ⟨q, PySem.W.cellsFrom_some _ _ _ (.inl q)⟩
  · subst he
    refine ⟨lim.keeps ic.toInCall.keep, codeAny_func ?_⟩
    obtain ⟨t, ht, hq⟩ := hbody cdv rfl A outer s H vs Q E hg (hr.deeper _) hsp
    refine wpAny_mono (ht.run [] s1 (start N vs) H _ (inv_start S hr.hd e0 hl rv ic) hq) (fun fl s' hs => ?_) fun e s' hs => hs
    cases fl with
    | ret u =>
      obtain ⟨v, σ', H', J, r', q⟩ := hs
      exact ⟨v, H', J.os, J.bare, J.base, J.hok, r', q⟩
    | next =>
      obtain ⟨σ', H', J, q⟩ := hs
      exact ⟨.non, H', J.os, J.bare, J.base, J.hok, rfl, q⟩
    | brk => exact False.elim (let ⟨_, _, _, q⟩ := hs; q)
    | cont => exact False.elim (let ⟨_, _, _, q⟩ := hs; q)
end
end L2
namespace LamX
open PySem PySem.Spec PyProof.Rows L2
/-- law_call with tables: cs, the code objects and their tables -/
theorem law_callTG {P : Program} {w : World} {K : PySem.W.Frag} {mg mb : Str → Option Value} {CX : CXT} {k : Nat} {fa a : Addr} {cs : List (Addr × Addr)} {fd : FuncData} {x : Str} {sp : Sp} {s₁ : Shared} {vs : List Value} {ns : List Int}
    (kX : K.In s₁.heap) (hnm : s₁.heap.Ns mainGlobals mg) (nb : s₁.heap.Ns builtinsNs mb) (nbb : ∀ x : Str, x ≠ "__name__" → mb x = bootBuiltins x) (lim : s₁.heap.NoLimit) (gn : s₁.gens = #[])
    (tE : ∀ p ∈ cs, s₁.heap.get? p.2 = some { cls := .none, data := .fields #[] }) (tN : ∀ p ∈ cs, K.lookup p.2 = none) (tC : ∀ p ∈ cs, PySem.W.CodeHd s₁.heap p.1 p.2)
    (hmn : ∃ (bmo : Addr) (obj : Obj), mg "__builtins__" = some (.ref bmo) ∧ bmo ≠ builtinsNs ∧ s₁.heap.get? bmo = some obj ∧ obj.cls = .type "module" ∧ obj.dict = some builtinsNs ∧ obj.data = .plain)
    (hAd : s₁.heap.get? a = some { cls := .type "list", data := .seq vs.toArray }) (hInt : IntsAre vs ns) (hln : ns.length ≤ sizeLine) (rm : Room k callerA)
    (F : ∀ base : Heap, K.In base → base.Ns mainGlobals mg → (∀ p ∈ cs, TabB base mg p.1 p.2) → FnOkG P w K mg base CX k fa fd [x] sp) (bnd : ∀ (s : Shared) (uu : Value), BindsTo s fd ⟨[uu], []⟩ [(x, uu)])
    (spH : ∀ Hq : Hp, (∀ p ∈ cs, Hq p.2 = some (.tbl #[])) → SqL K Hq a (ns.map V.int) → sp [.ref a] Hq (fun v _ => v = .bl true) fun _ _ _ => False)
    (cxH : ∀ Hq ee s', CX [] Hq s₁ (fun _ _ _ => False) ee s' → False) :
    codeAny (model P w) callerA (.call (.ref fa) ⟨[.ref a], []⟩) (fun r s' => r = .ok (.ret (.bool true)) ∧ OldK s₁.heap s'.heap ∧ s'.os = s₁.os ∧ AllBare s'.gens) s₁ := by
  have rvs := vals_ints hInt
  have lnV := hInt.length
  have tbO : ∀ bb : Addr, bb ∈ cs.map (·.2) → s₁.heap.get? bb = some { cls := .none, data := .fields #[] } := fun bb nb => by
    obtain ⟨p, hp, ee⟩ := List.mem_map.mp nb
    rw [← ee]
    exact tE p hp
  have aNo : a ∉ cs.map (·.2) := fun zz => by
    have qq := tbO a zz
    rw [hAd] at qq
    have z' : Data.seq vs.toArray _ = Data.fields #[] := congrArg Obj.data (Option.some.inj qq)
    cases z'
  have tbM : ∀ p ∈ cs, p.2 ∈ cs.map (·.2) := fun p hp => List.mem_map.mpr ⟨p, hp, rfl⟩
  -- from an abstract heap in which nothing but the script and the tables may be tracked
  have heart : ∀ Hq : Hp, (∀ p ∈ cs, Hq p.2 = some (.tbl #[])) → (∀ bb, Hq bb = none ∨ bb ∈ cs.map (·.2) ∨ ∃ oo xs, Hq bb = some (.frz oo (.lst xs))) → SqL K Hq a (ns.map V.int) → HOk P w Hq s₁.heap → (∀ bb, Hq bb ≠ none → bb = a ∨ bb ∈ cs.map (·.2)) → (Hq a ≠ none → K.lookup a = none) →
      codeAny (model P w) callerA (.call (.ref fa) ⟨[.ref a], []⟩) (fun r s' => r = .ok (.ret (.bool true)) ∧ OldK s₁.heap s'.heap ∧ s'.os = s₁.os ∧ AllBare s'.gens) s₁ := by
    intro Hq hTb hOn hSq hOk hAt hKn
    have stays : ∀ {bb : Addr} {oo : Obj}, s₁.heap.get? bb = some oo → Hq bb = none → (hidT s₁.heap Hq).get? bb = some oo := fun ee n => hidT_get ee n
    have noT : ∀ {bb : Addr} {oo : Obj}, s₁.heap.get? bb = some oo → (∀ vs n, oo.data ≠ .seq vs n) → oo.data ≠ .fields #[] → Hq bb = none := fun {bb oo} ee h1 h2 => by
      cases qq : Hq bb with
      | none => rfl
      | some uu =>
        rcases hAt bb (by rw [qq]; simp) with e' | e'
        · rw [e', hAd] at ee
          cases ee
          exact (h1 _ _ rfl).elim
        · rw [tbO bb e'] at ee
          cases ee
          exact (h2 rfl).elim
    have noS : ∀ {bb : Addr} {oo : Obj} {ents : Array DictEntry} {epo : Nat}, s₁.heap.get? bb = some oo → oo.data = .dict ents epo → Hq bb = none := fun {bb oo ents epo} ee d => by
      refine noT ee (fun vs n zz => ?_) fun zz => ?_
      · rw [d] at zz
        cases zz
      · rw [d] at zz
        cases zz
    have nsS : ∀ {bb : Addr} {m : Str → Option Value}, s₁.heap.Ns bb m → (hidT s₁.heap Hq).Ns bb m := fun {bb m} ⟨oo, ents, epo, ee, d, r⟩ => ⟨oo, ents, epo, stays ee (noS ee d), d, r⟩
    have kIn : K.In (hidT s₁.heap Hq) := fun bb oo ee => stays (kX bb oo ee) (by
      cases qq : Hq bb with
      | none => rfl
      | some uu =>
        rcases hAt bb (by rw [qq]; simp) with e' | e'
        · rw [e'] at ee qq
          rw [hKn (by rw [qq]; simp)] at ee
          cases ee
        · obtain ⟨p, hp, epo⟩ := List.mem_map.mp e'
          rw [← epo, tN p hp] at ee
          cases ee)
    have md : L2.Mod K mg (hidT s₁.heap Hq) := ⟨kIn, nsS hnm, ⟨mb, nsS nb, nbb⟩, let ⟨mc, h1, h2⟩ := lim; ⟨mc, nsS h1, h2⟩⟩
    have tbB : ∀ p ∈ cs, TabB (hidT s₁.heap Hq) mg p.1 p.2 := fun p hp => by
      have hTp := tE p hp
      refine ⟨?_, ?_, fun zz => ?_⟩
      · obtain ⟨oo, us, file, tf, flags, tg, inF, text, tt, e1, r1, r2, r3, r4, r5, r6, r7, r8, hne⟩ := tC p hp
        refine ⟨oo, us, file, tf, flags, tg, inF, text, tt, stays e1 (noT e1 (fun vs n zz => ?_) fun zz => ?_), r1, r2, r3, r4, r5, r6, r7, r8, hne⟩
        · rw [r2] at zz
          cases zz
        · rw [r2] at zz
          cases zz
          simp at r3
      · obtain ⟨bmo, obj, b1, b2, b3, b4, b5, b6⟩ := hmn
        have nG : bmo ≠ mainGlobals := fun qq => by
          obtain ⟨oo, ents, epo, ee, hd, _⟩ := hnm
          rw [qq, ee] at b3
          cases b3
          rw [hd] at b6
          cases b6
        have nP : bmo ≠ p.2 := fun qq => by
          rw [qq, hTp] at b3
          cases b3
          cases b6
        refine ⟨bmo, obj, b1, b2, nG, nP, stays b3 (noT b3 (fun vs n zz => ?_) fun zz => ?_), b4, b5, b6⟩
        · rw [b6] at zz
          cases zz
        · rw [b6] at zz
          cases zz
      · obtain ⟨oo, ents, epo, ee, hd, _⟩ := hnm
        rw [zz, hTp] at ee
        cases ee
        cases hd
    have e0 : Env0 P w K mg (hidT s₁.heap Hq) callerA [] s₁ Hq := ⟨rfl, md, fun bb oo ee => of_hidT ee, Nat.le_of_eq (hidT_size _ _), trivial, fun bb nb => absurd (show bb ∈ ([] : List Addr) from nb) (by simp), hOk, .of_eq gn⟩
    refine codeAny_mono ((F _ kIn (nsS hnm) tbB).run callerA [] s₁ Hq ⟨[.ref a], []⟩ [.ref a] [.ref a] _ _ rfl rm e0 (bnd s₁ (.ref a)) (.cons rfl .nil) (spH Hq hTb hSq)) fun r s' h => ?_
    cases r with
    | error ee => exact (cxH Hq ee s' h).elim
    | ok fl =>
      cases fl with
      | next => exact False.elim h
      | brk => exact False.elim h
      | cont => exact False.elim h
      | ret uu =>
        obtain ⟨v, H', os, bare, un, hok', r', qq⟩ := h
        have q' : v = .bl true := qq
        subst q'
        obtain rfl : uu = Value.bool true := r'
        have keptO : ∀ bb oo, bb ∉ cs.map (·.2) → s₁.heap.get? bb = some oo → s'.heap.get? bb = some oo := fun bb oo nb ee => by
          cases qq : Hq bb with
          | none => exact un.keep bb oo ee qq (by intro zz; exact absurd (show bb ∈ ([] : List Addr) from zz) (by simp)) (by simp)
          | some uu =>
            rcases hOn bb with zz | zz | ⟨obj, xs, zz⟩
            · rw [qq] at zz; cases zz
            · exact absurd zz nb
            · have z2 := un.frzs bb obj _ zz
              obtain ⟨e1, _⟩ := hOk bb _ zz
              obtain ⟨e2, _⟩ := hok' bb _ z2
              rw [ee] at e1; cases e1
              exact e2
        have moreT : ∀ p ∈ cs, ∃ more : Array Value, s'.heap.get? p.2 = some { cls := .none, data := .fields more } := fun p hp => by
          obtain ⟨more, zz⟩ := un.tbls p.2 #[] (hTb p hp)
          exact ⟨_, hok' p.2 _ zz⟩
        refine ⟨rfl, ⟨fun bb oo ee => ?_, fun bb oo ee => ?_⟩, os, bare⟩
        · by_cases nb : bb ∈ cs.map (·.2)
          · obtain ⟨p, hp, epo⟩ := List.mem_map.mp nb
            obtain ⟨more, hm⟩ := moreT p hp
            rw [← epo] at ee ⊢
            rw [tE p hp] at ee
            cases ee
            exact .inr (.inl ⟨((tC p hp).tab (tE p hp)).isCodeTable, rfl, #[], more, rfl, by rw [Array.empty_append]; exact hm⟩)
          · exact .inl (keptO bb oo nb ee)
        · by_cases nb : bb ∈ cs.map (·.2)
          · obtain ⟨p, hp, epo⟩ := List.mem_map.mp nb
            obtain ⟨more, hm⟩ := moreT p hp
            rw [← epo]
            exact ⟨_, hm⟩
          · exact ⟨oo, keptO bb oo nb ee⟩
  cases hk : K.lookup a with
  | some oo =>
    have ee := kX a oo hk
    rw [hAd] at ee
    cases ee
    refine heart (fun bb => if bb ∈ cs.map (·.2) then some (.tbl #[]) else none) (fun p hp => if_pos (tbM p hp)) (fun bb => ?_) (.inr ⟨_, vs.toArray, _, hk, rfl, rfl, rfl, by rw [List.size_toArray, lnV]; exact hln, by simpa using rvs⟩) (fun bb uu zz => ?_) (fun bb zz => ?_) fun zz => absurd (show (if a ∈ cs.map (·.2) then some (HO.tbl #[]) else none) = none from if_neg aNo) zz
    · by_cases nb : bb ∈ cs.map (·.2)
      · exact .inr (.inl nb)
      · exact .inl (if_neg nb)
    · by_cases nb : bb ∈ cs.map (·.2)
      · have z' := (if_pos nb).symm.trans zz
        cases z'
        exact tbO bb nb
      · have z' := (if_neg nb).symm.trans zz
        cases z'
    · by_cases nb : bb ∈ cs.map (·.2)
      · exact .inr nb
      · exact absurd (if_neg nb) zz
  | none =>
    refine heart (fun bb => if bb = a then some (.frz { cls := .type "list", data := .seq vs.toArray } (.lst (ns.map V.int))) else if bb ∈ cs.map (·.2) then some (.tbl #[]) else none) (fun p hp => (if_neg (show ¬ p.2 = a from fun zz => aNo (by rw [← zz]; exact tbM p hp))).trans (if_pos (tbM p hp))) (fun bb => ?_)
      (.inl (.inr ⟨{ cls := .type "list", data := .seq vs.toArray }, if_pos rfl⟩)) (fun bb uu zz => ?_) (fun bb zz => ?_) fun _ => hk
    · by_cases nb : bb = a
      · exact .inr (.inr ⟨_, _, if_pos nb⟩)
      · by_cases hb2 : bb ∈ cs.map (·.2)
        · exact .inr (.inl hb2)
        · exact .inl ((if_neg nb).trans (if_neg hb2))
    · by_cases nb : bb = a
      · have z' := (if_pos nb).symm.trans zz
        cases z'
        rw [nb]
        exact ⟨hAd, by rw [List.length_map]; exact hln, vs, _, rvs, hAd⟩
      · have z1 := (if_neg nb).symm.trans zz
        by_cases hb2 : bb ∈ cs.map (·.2)
        · have z' := (if_pos hb2).symm.trans z1
          cases z'
          exact tbO bb hb2
        · have z' := (if_neg hb2).symm.trans z1
          cases z'
    · by_cases nb : bb = a
      · exact .inl nb
      · by_cases hb2 : bb ∈ cs.map (·.2)
        · exact .inr hb2
        · exact absurd ((if_neg nb).trans (if_neg hb2)) zz
/-- what is told of the law's promise at the head's heap h -/
def LawAtG (l : PySem.W.OpenLaw) (w : World) (K : PySem.W.Frag) (CX : CXT) (k n : Nat) (x : Str) (mg : Str → Option Value) (fa : Addr) (h : Heap) : Prop :=
  ∃ (fd : FuncData) (tabs : List (Addr × Addr)) (sp : Sp), (∀ p ∈ tabs, h.get? p.2 = some { cls := .none, data := .fields #[] }) ∧ (∀ p ∈ tabs, K.lookup p.2 = none) ∧ (∀ p ∈ tabs, PySem.W.CodeHd h p.1 p.2) ∧
    (∀ (s : Shared) (u : Value), BindsTo s fd ⟨[u], []⟩ [(x, u)]) ∧ (∀ (H : Hp) (a : Addr) (ns : List Int), ns.length ≤ n → (∀ p ∈ tabs, H p.2 = some (.tbl #[])) → SqL K H a (ns.map V.int) → sp [.ref a] H (fun v _ => v = .bl true) fun _ _ _ => False) ∧
    ∀ base : Heap, K.In base → base.Ns mainGlobals mg → (∀ p ∈ tabs, TabB base mg p.1 p.2) → FnOkG l.prog w K mg base CX k fa fd [x] sp
/-- the end, by such a Hook -/
theorem walk_ofTG {l : PySem.W.OpenLaw} {n k : Nat} {q : Program} {loose : List Str} {XP : (Str → Option Value) → Heap → Prop} {YP : World → Heap → Prop} {d : DefRec} {CX : CXT} {x : Str} (hn : l.most = some n) (hn2 : n ≤ sizeLine) (hdf : d.params.defaults = []) (hr : Room k callerA)
    (F : ∀ (w : World) (mg : Str → Option Value) (fa : Addr) (h : Heap), YP w h → h.Ns mainGlobals mg → mg d.name = some (.ref fa) → ∃ K : PySem.W.Frag, K.In h ∧ LawAtG l w K CX k n x mg fa h) (hCX : ∀ (H : Hp) (s : Shared) (e : Value) (s' : Shared), CX [] H s (fun _ _ _ => False) e s' → False) :
    PySem.W.WalkO q loose XP YP l.row.toRowW d [] (fun f vs => PySem.call f vs) := by
  refine Att.attach_callB hn hdf fun w s₀ s₁ mg mb fa o pm cd doc a vs ns G Y ho hd hcd hmg hobj hints hlen hbits hg => ?_
  obtain ⟨K, KX, fd, tabs, sp, hT, nT, C, hb, hsp, hF⟩ := F w mg fa _ Y G.T.g hmg
  exact law_callTG KX G.T.g G.T.b G.T.builtins G.T.nolimit hg hT nT C G.T.bmain hobj hints (Nat.le_trans hlen hn2) hr hF hb (fun H hH hS => hsp H a ns hlen hH hS) fun H e s' => hCX H s₁ e s'
end LamX
/-! words that hold for every law of this package -/
namespace My
open PySem PySem.Spec PyProof.Rows L2 Evl
theorem dp_bls {K : PySem.W.Frag} {H : Hp} : ∀ bs : List Bool, DpAll K H (bs.map V.bl) (bs.map PyData.bool)
  | [] => .nil
  | b :: r => .cons (.bl b) (dp_bls r)
theorem plain_bls : ∀ bs : List Bool, PyData.plainAll (bs.map PyData.bool) = true
  | [] => rfl
  | b :: r => by
    show PyData.plainAll (PyData.bool b :: r.map PyData.bool) = true
    unfold PyData.plainAll
    rw [plain_bls r]
    rfl
theorem truthy_bls : ∀ bs : List Bool, (bs.map PyData.bool).all PyData.truthy = bs.all id
  | [] => rfl
  | b :: r => by
    rw [List.map_cons, List.all_cons, List.all_cons, truthy_bls r]
    rfl
theorem truthy_bls' : ∀ bs : List Bool, (bs.map PyData.bool).any PyData.truthy = bs.any id
  | [] => rfl
  | b :: r => by
    rw [List.map_cons, List.any_cons, List.any_cons, truthy_bls' r]
    rfl
/-- all, any of a list of truth values -/
def rAllB (K : PySem.W.Frag) : List V → Hp → VK → Prop := fun xs H Q => ∃ (l : Addr) (bs : List Bool), xs = [.ref l] ∧ SqL K H l (bs.map V.bl) ∧ Q (.bl (bs.all id)) H
def rAnyB (K : PySem.W.Frag) : List V → Hp → VK → Prop := fun xs H Q => ∃ (l : Addr) (bs : List Bool), xs = [.ref l] ∧ SqL K H l (bs.map V.bl) ∧ Q (.bl (bs.any id)) H
theorem call_allB {X : Cx} (hc : X.calm = true) : CallR X (.builtin "all") (rAllB X.K) := by
  intro pins s σ H xs us Q I r h
  obtain ⟨l, bs, rfl, hl, q⟩ := h
  rw [Vals.ref1 r]
  obtain ⟨its, rv, pl, hz⟩ := I.list hl
  obtain ⟨as, hr⟩ := Dp.readsAll I _ _ _ (dp_bls bs) rv
  refine PySem.W.all_list_data (I.ok.hd hc) pl.isList hr (plain_bls bs) (fun x hx => ?_) fun h' tk k => ?_
  · obtain ⟨b, _, rfl⟩ := List.mem_map.mp hx
    trivial
  · rw [truthy_bls]
    exact ⟨.bl _, H, I.kept (t' := tk) k, rfl, q⟩
theorem call_anyB {X : Cx} (hc : X.calm = true) : CallR X (.builtin "any") (rAnyB X.K) := by
  intro pins s σ H xs us Q I r h
  obtain ⟨l, bs, rfl, hl, q⟩ := h
  rw [Vals.ref1 r]
  obtain ⟨its, rv, pl, hz⟩ := I.list hl
  obtain ⟨as, hr⟩ := Dp.readsAll I _ _ _ (dp_bls bs) rv
  refine PySem.W.any_list_data (I.ok.hd hc) pl.isList hr (plain_bls bs) (fun x hx => ?_) fun h' tk k => ?_
  · obtain ⟨b, _, rfl⟩ := List.mem_map.mp hx
    trivial
  · rw [truthy_bls']
    exact ⟨.bl _, H, I.kept (t' := tk) k, rfl, q⟩
theorem ev_all {K : PySem.W.Frag} {te : TE} {σ : L2.St} {H : Hp} {bs : List Bool} (h : EvL te σ H (bs.map V.bl)) : Ev (tCB (rAllB K) (tCons te tNil)) σ H (.bl (bs.all id)) := fun H1 e Q q => h H1 e _ fun p H2 _ e2 hp => ⟨p, bs, rfl, SqL.of hp, q H2 e2⟩
theorem ev_any {K : PySem.W.Frag} {te : TE} {σ : L2.St} {H : Hp} {bs : List Bool} (h : EvL te σ H (bs.map V.bl)) : Ev (tCB (rAnyB K) (tCons te tNil)) σ H (.bl (bs.any id)) := fun H1 e Q q => h H1 e _ fun p H2 _ e2 hp => ⟨p, bs, rfl, SqL.of hp, q H2 e2⟩
theorem el_is {te : TE} {σ : L2.St} {H : Hp} {xs ys : List V} (h : EvL te σ H xs) (e : xs = ys) : EvL te σ H ys := e ▸ h
theorem boot_all : bootBuiltins "all" = some (.builtin "all") := by decide +kernel
theorem boot_any : bootBuiltins "any" = some (.builtin "any") := by decide +kernel
theorem boot_isi : bootBuiltins "isinstance" = some (.builtin "isinstance") := by decide +kernel
theorem boot_intT : bootBuiltins "int" = some (.type "int") := by decide +kernel
theorem boot_boolT : bootBuiltins "bool" = some (.type "bool") := by decide +kernel
theorem boot_tupT : bootBuiltins "tuple" = some (.type "tuple") := by decide +kernel
theorem boot_strT : bootBuiltins "str" = some (.type "str") := by decide +kernel
/-! ### isinstance of flat values and of tuples -/
def tyF : V → String
  | .non => "NoneType"
  | .bl _ => "bool"
  | .int _ => "int"
  | .str _ => "str"
  | _ => "object"
theorem ty_flat {K : PySem.W.Frag} {H : Hp} {x : V} (h : flatV x = true) : TyX K H x (.type (tyF x)) := by
  cases x with
  | non => exact .base .non
  | bl b => exact .base (.bl b)
  | int i => exact .base (.int i)
  | str z => exact .base (.str z)
  | _ => cases h
def isIntV : V → Bool
  | .bl _ => true
  | .int _ => true
  | _ => false
def isBoolV : V → Bool
  | .bl _ => true
  | _ => false
theorem kit_int {K : PySem.W.Frag} {x : V} (h : flatV x = true) : PySem.W.kitOne K (.type (tyF x)) (.type "int") = some (isIntV x) := by
  cases x with
  | non => rfl
  | bl b => rfl
  | int i => rfl
  | str z => rfl
  | _ => cases h
theorem kit_bool {K : PySem.W.Frag} {x : V} (h : flatV x = true) : PySem.W.kitOne K (.type (tyF x)) (.type "bool") = some (isBoolV x) := by
  cases x with
  | non => rfl
  | bl b => rfl
  | int i => rfl
  | str z => rfl
  | _ => cases h
theorem ev_isi {K : PySem.W.Frag} {σ : L2.St} {H : Hp} {te : TE} {x c : V} {t u : Value} {b : Bool} (ha : Ev te σ H x) (hc : ClsV c u) (ty : ∀ H', Ex H H' → TyX K H' x t) (hk : PySem.W.kitOne K t u = some b) : Ev (tCB (rIsi K) (tCons te (tCons (tC c) tNil))) σ H (.bl b) :=
  ev_cb (ea_cons ha (ea_cons ev_c ea_nil)) fun H1 e1 Q q => ⟨x, c, t, u, b, rfl, hc, ty H1 e1, hk, q H1 (Ex.refl _)⟩
/-- a whole number, and none of truth -/
def wholeV : V → Bool
  | .int i => decide (-(10 ^ 18 : Int) < i) && decide (i < 10 ^ 18)
  | _ => false
def rngV (x : V) (lo hi : Int) : Bool := match x with
  | .int i => decide (lo ≤ i) && decide (i ≤ hi)
  | _ => false
def numV (x : V) (lo hi : Int) : Bool := wholeV x && rngV x lo hi
theorem ev_chain {r r' : R2} {ta tb tc : TE} {σ : L2.St} {H : Hp} {x y z : V} {b c : Bool} (ha : Ev ta σ H x) (hb : Ev tb σ H y) (h1 : RV r x y H (.bl b)) (hc : b = true → Ev tc σ H z) (h2 : b = true → RV r' y z H (.bl c)) : Ev (tChain r r' ta tb tc) σ H (.bl (b && c)) := fun H1 e Q q =>
  ha H1 e _ fun H2 e2 => hb H2 (e.trans e2) _ fun H3 e3 => h1 H3 ((e.trans e2).trans e3) _ fun H4 e4 => ⟨b, rfl, by
    cases b with
    | false =>
      rw [if_neg Bool.false_ne_true]
      exact q H4 ((e2.trans e3).trans e4)
    | true =>
      rw [if_pos rfl]
      exact hc rfl H4 (((e.trans e2).trans e3).trans e4) _ fun H5 e5 => h2 rfl H5 ((((e.trans e2).trans e3).trans e4).trans e5) _ fun H6 e6 => q H6 ((((e2.trans e3).trans e4).trans e5).trans e6)⟩
end My
/-! pairs of ints; comprehensions over any walk; tuples as values -/
namespace My
open PySem PySem.Spec PyProof.Rows L2 Evl
/-! ### pairs -/
def PairV (H : Hp) (x : V) (p : Int × Int) : Prop := ∃ t, x = .ref t ∧ H t = some (.tup [.int p.1, .int p.2])
theorem PairV.up {H H' : Hp} {x : V} {p : Int × Int} (e : Ex H H') (h : PairV H x p) : PairV H' x p := let ⟨t, h1, h2⟩ := h; ⟨t, h1, e _ _ h2⟩
theorem PairV.uniq {H : Hp} {x : V} {p q : Int × Int} (h : PairV H x p) (k : PairV H x q) : p = q := by
  obtain ⟨t, rfl, h2⟩ := h
  obtain ⟨u, e, k2⟩ := k
  cases e
  rw [h2] at k2
  cases p
  cases q
  cases k2
  rfl
inductive PrL (H : Hp) : List V → List (Int × Int) → Prop
  | nil : PrL H [] []
  | cons {x : V} {p : Int × Int} {xs : List V} {ps : List (Int × Int)} : PairV H x p → PrL H xs ps → PrL H (x :: xs) (p :: ps)
theorem PrL.up {H H' : Hp} (e : Ex H H') : ∀ {xs ps}, PrL H xs ps → PrL H' xs ps
  | _, _, .nil => .nil
  | _, _, .cons h r => .cons (h.up e) (r.up e)
theorem PrL.len {H : Hp} : ∀ {xs ps}, PrL H xs ps → xs.length = ps.length
  | _, _, .nil => rfl
  | _, _, .cons _ r => congrArg (· + 1) r.len
theorem PrL.app {H : Hp} : ∀ {xs ps ys qs}, PrL H xs ps → PrL H ys qs → PrL H (xs ++ ys) (ps ++ qs)
  | _, _, _, _, .nil, k => k
  | _, _, _, _, .cons h r, k => .cons h (r.app k)
theorem PrL.get {H : Hp} : ∀ {xs ps}, PrL H xs ps → ∀ (i : Nat) (x : V), xs[i]? = some x → ∃ p, ps[i]? = some p ∧ PairV H x p
  | _, _, .nil, _, _, h => nomatch h
  | _, _, .cons h r, 0, x, e => ⟨_, rfl, by cases e; exact h⟩
  | _, _, .cons h r, i + 1, x, e => r.get i x e
theorem PrL.drop {H : Hp} : ∀ (n : Nat) {xs ps}, PrL H xs ps → PrL H (xs.drop n) (ps.drop n)
  | 0, _, _, h => h
  | n + 1, _, _, .nil => .nil
  | n + 1, _, _, .cons h r => PrL.drop n r
theorem PrL.take {H : Hp} : ∀ (n : Nat) {xs ps}, PrL H xs ps → PrL H (xs.take n) (ps.take n)
  | 0, _, _, _ => .nil
  | n + 1, _, _, .nil => .nil
  | n + 1, _, _, .cons h r => .cons h (PrL.take n r)
theorem PrL.mem {H : Hp} : ∀ {xs ps}, PrL H xs ps → ∀ x ∈ xs, ∃ p ∈ ps, PairV H x p
  | _, _, .cons h r, x, hx => by
    rcases List.mem_cons.mp hx with e | hx
    · subst e
      exact ⟨_, List.mem_cons_self, h⟩
    · obtain ⟨p, hp, k⟩ := r.mem x hx
      exact ⟨p, List.mem_cons_of_mem _ hp, k⟩
/-- what stands at x -/
noncomputable def prOf (H : Hp) (x : V) : Int × Int := open Classical in if h : ∃ p, PairV H x p then h.choose else (0, 0)
theorem prOf_eq {H : Hp} {x : V} {p : Int × Int} (h : PairV H x p) : prOf H x = p := by
  unfold prOf
  rw [dif_pos ⟨p, h⟩]
  exact (Exists.choose_spec (⟨p, h⟩ : ∃ p, PairV H x p)).uniq h
theorem PrL.map {H : Hp} : ∀ {xs ps}, PrL H xs ps → xs.map (prOf H) = ps
  | _, _, .nil => rfl
  | _, _, .cons h r => by
    rw [List.map_cons, prOf_eq h, r.map]
theorem PrL.of {H : Hp} : ∀ {xs : List V}, (∀ x ∈ xs, ∃ p, PairV H x p) → PrL H xs (xs.map (prOf H))
  | [], _ => .nil
  | x :: r, h => by
    obtain ⟨p, hp⟩ := h x List.mem_cons_self
    rw [List.map_cons, prOf_eq hp]
    exact .cons hp (PrL.of fun y hy => h y (List.mem_cons_of_mem _ hy))
/-! ### a tuple as a value, new or not -/
def EvS (K : PySem.W.Frag) (te : TE) (σ : L2.St) (H : Hp) (xs : List V) : Prop := ∀ H1, Ex H H1 → ∀ Q : VK, (∀ p H2, Ex H1 H2 → SqT K H2 p xs → Q (.ref p) H2) → te σ H1 Q
section
variable {K : PySem.W.Frag} {σ : L2.St} {H : Hp} {te ta tb : TE} {xs ys : List V}
theorem es_var {i : Nat} {a : Addr} (h : σ[i]? = some (some (.ref a))) (hx : SqT K H a xs) : EvS K (tVar i) σ H xs := fun H1 e Q q => ⟨_, h, q a H1 (Ex.refl _) (ex_t e hx)⟩
theorem es_U (h : EvU te σ H xs) : EvS K te σ H xs := fun H1 e Q q => h H1 e _ fun p H2 _ e2 hp => q p H2 e2 (st_of hp)
theorem es_is (h : EvS K te σ H xs) (e : xs = ys) : EvS K te σ H ys := e ▸ h
theorem sIx_all {n : Nat} (xs : List V) (h : HT.sIx xs.length 0 none = 0 ∧ HT.sIx xs.length xs.length none = xs.length) : cutV xs none none = xs := by
  unfold cutV
  rw [h.1, h.2, List.drop_zero, Nat.sub_zero, List.take_length]
theorem cut_whole {lo hi : Option Int} (h : HT.sIx xs.length 0 lo = 0 ∧ HT.sIx xs.length xs.length hi = xs.length) : cutV xs lo hi = xs := by
  unfold cutV
  rw [h.1, h.2, List.drop_zero, Nat.sub_zero, List.take_length]
theorem es_sl {tl th : TO} {lo hi : Option Int} (h : EvS K te σ H xs) (h1 : EvO tl σ H lo) (h2 : EvO th σ H hi) : EvS K (tSl (rSlA K) te tl th) σ H (cutV xs lo hi) := fun H1 e Q q =>
  h H1 e _ fun a H2 e2 ha => h1 H2 (e.trans e2) _ fun H3 e3 => h2 H3 ((e.trans e2).trans e3) _ fun H4 e4 => ⟨a, xs, rfl, ex_t (e3.trans e4) ha, fun w => by
    have z := cut_whole w
    exact q a H4 ((e2.trans e3).trans e4) (by rw [z]; exact ex_t (e3.trans e4) ha), fun _ p hp => q p _ (((e2.trans e3).trans e4).trans (Ex.new hp)) (st_of upd_same)⟩
theorem es_cat (h : EvS K ta σ H xs) (k : EvS K tb σ H ys) (hz : xs.length + ys.length ≤ 100000) : EvS K (tOp (rCatA K) ta tb) σ H (xs ++ ys) := fun H1 e Q q =>
  h H1 e _ fun a H2 e2 ha => k H2 (e.trans e2) _ fun b H3 e3 hb => ⟨a, b, xs, ys, rfl, rfl, ex_t e3 ha, hb, sz_of hz, fun z => by
    subst z
    exact q b H3 (e2.trans e3) hb, fun _ z => by
    subst z
    rw [List.append_nil] at q
    exact q a H3 (e2.trans e3) (ex_t e3 ha), fun _ _ p hp => q p _ ((e2.trans e3).trans (Ex.new hp)) (st_of upd_same)⟩
end
theorem ev_lenS {K : PySem.W.Frag} {σ : L2.St} {H : Hp} {te : TE} {xs : List V} (h : EvS K te σ H xs) : Ev (tCB (rLenS K) (tCons te tNil)) σ H (.int (xs.length : Int)) := fun H1 e Q q => h H1 e _ fun p H2 e2 hp => ⟨p, xs, rfl, .inr hp, q H2 e2⟩
theorem ty_tup {K : PySem.W.Frag} {H : Hp} {a : Addr} {xs : List V} (h : SqT K H a xs) : TyX K H (.ref a) (.type "tuple") := by
  rcases h with (h | ⟨o, h⟩) | ⟨o, its, n, h1, h2, _⟩
  · exact .base (.tup h)
  · exact .fTuple h
  · exact .kTuple h1 h2
theorem cut_from (xs : List V) (n : Nat) : cutV xs (some (n : Int)) none = xs.drop n := by
  unfold cutV
  have h1 : HT.sIx xs.length xs.length none = xs.length := rfl
  have h0 : HT.sIx xs.length 0 (some (n : Int)) = min n xs.length := by
    unfold HT.sIx
    simp
    omega
  rw [h1, h0]
  by_cases h : n ≤ xs.length
  · rw [Nat.min_eq_left h, List.take_of_length_le (by rw [List.length_drop]; exact Nat.le_refl _)]
  · rw [Nat.min_eq_right (by omega), List.drop_eq_nil_of_le (Nat.le_refl _), List.drop_eq_nil_of_le (by omega), List.take_nil]
theorem cut_to (xs : List V) (n : Nat) : cutV xs none (some (n : Int)) = xs.take n := by
  unfold cutV
  have h1 : HT.sIx xs.length 0 none = 0 := rfl
  have h0 : HT.sIx xs.length xs.length (some (n : Int)) = min n xs.length := by
    unfold HT.sIx
    simp
    omega
  rw [h1, h0, List.drop_zero, Nat.sub_zero]
  by_cases h : n ≤ xs.length
  · rw [Nat.min_eq_left h]
  · rw [Nat.min_eq_right (by omega), List.take_length, List.take_of_length_le (by omega)]
/-! ### a comprehension over any walk -/
theorem el_lcW {σ : L2.St} {H : Hp} {wi : TI} {g : TG} {tt : TT} {te : TE} {vs : List Nat} {n : Nat} {Y : Nat → Hp → V → Hp → Prop} (f : Nat → Bool) (v : Nat → V) (hn : n ≤ 40000)
    (hw : ∀ H1, Ex H H1 → ∀ R : It → Hp → Prop, (∀ J H2, Ex H1 H2 → Walk J n (fun H' => Ex H2 H') Y → R J H2) → wi σ H1 R)
    (hs : ∀ i x H1 H2, i < n → Ex H H1 → Y i H1 x H2 → Ex H1 H2 ∧ ∃ σ2, (∀ R : L2.St → Hp → Prop, R σ2 H2 → g x (wipe σ vs) H2 R) ∧ wipe σ2 vs = wipe σ vs ∧ EvT tt σ2 H (f i) ∧ (f i = true → Ev te σ2 H (v i))) :
    EvL (tLc wi g tt te vs) σ H (given n f v) := fun H0 e Q q => hw H0 e _ fun J H2 e2 w Dl hD =>
  lc_it w (Cw H2 f v Dl) ⟨hD, Ex.new hD, upd_same⟩ (fun i H' _ p => p.2.1) (fun i x H3 H4 hi p y => by
    obtain ⟨e4, σ2, hg, hwp, ht, he⟩ := hs i x H3 H4 hi ((e.trans e2).trans p.2.1) y
    refine hg _ ⟨hwp, cw_turn ⟨p.1, p.2.1.trans e4, e4 _ _ p.2.2⟩ (by omega) (EvT.mono (e.trans e2) ht) fun hf => Ev.mono (e.trans e2) (he hf)⟩) (fun H' p => q Dl H' (fresh_back e2 p.1) (e2.trans p.2.1) p.2.2)
theorem given_all {n : Nat} {v : Nat → V} : given n (fun _ => true) v = (List.range n).map v := by
  unfold given
  rw [List.filter_eq_self.mpr fun _ _ => rfl]
/-- the target a, b of a new pair -/
theorem g_pair {K : PySem.W.Frag} {i j : Nat} {T : Addr} {x y : V} {H : Hp} {σ : L2.St} {R : L2.St → Hp → Prop} (h : R ((σ.set i (some x)).set j (some y)) (upd H T (.tup [x, y]))) : gTup K 2 (gCons (gName i) (gCons (gName j) gNil)) (.ref T) σ (upd H T (.tup [x, y])) R :=
  ⟨T, _, rfl, SqT.of upd_same, rfl, _, _, rfl, _, _, rfl, rfl, h⟩
/-- .. of a pair that stands there -/
theorem g_pairT {K : PySem.W.Frag} {i j : Nat} {T : Addr} {x y : V} {H : Hp} {σ : L2.St} {R : L2.St → Hp → Prop} (hT : SqT K H T [x, y]) (h : R ((σ.set i (some x)).set j (some y)) H) : gTup K 2 (gCons (gName i) (gCons (gName j) gNil)) (.ref T) σ H R :=
  ⟨T, _, rfl, hT, rfl, _, _, rfl, _, _, rfl, rfl, h⟩
theorem walk_zipT {K : PySem.W.Frag} {a b : Addr} {xs ys : List V} {n : Nat} (hn : n = min xs.length ys.length) : Walk (RZ.ItzT K a b) n (fun H => SqT K H a xs ∧ SqT K H b ys) (YPair (fun i => xs[i]?) (fun i => ys[i]?)) := by
  subst hn
  refine ⟨fun i H hi q => ?_, fun H q => ⟨xs, ys, q.1, q.2, by omega⟩, fun i H v H' _ q y => ?_⟩
  · have h1 : i < xs.length := by omega
    have h2 : i < ys.length := by omega
    exact ⟨xs, ys, xs[i], ys[i], q.1, q.2, by simp [h1], by simp [h2]⟩
  · obtain ⟨T, x, z, h1, h2, h3, h4, h5⟩ := y
    exact ⟨T, x, z, h1, h2, h3, h4 xs q.1, h5 ys q.2⟩
/-! ### order of pairs -/
def ltB (p q : Int × Int) : Bool := if p.1 = q.1 then decide (p.2 < q.2) else decide (p.1 < q.1)
theorem lex_pair (p q : Int × Int) : HT.lexLt [p.1, p.2] [q.1, q.2] = ltB p q := by
  unfold ltB
  rw [HT.lexLt_cons, HT.lexLt_cons, HT.lexLt_nil_nil]
  by_cases h : p.1 = q.1
  · rw [if_pos h, if_pos h]
    by_cases h2 : p.2 = q.2
    · rw [if_pos h2, h2]
      simp
    · rw [if_neg h2]
  · rw [if_neg h, if_neg h]
theorem rv_ltP {K : PySem.W.Frag} {H : Hp} {x y : V} {p q : Int × Int} (hx : PairV H x p) (hy : PairV H y q) : RV (rLtT K) x y H (.bl (ltB p q)) := by
  obtain ⟨t, rfl, ht⟩ := hx
  obtain ⟨u, rfl, hu⟩ := hy
  exact rv_val fun H1 e Q k => ⟨t, u, [p.1, p.2], [q.1, q.2], rfl, rfl, SqT.of (e _ _ ht), SqT.of (e _ _ hu), by rw [lex_pair]; exact k⟩
/-- ascending, no pair twice -/
def asc : List (Int × Int) → Bool
  | [] => true
  | [_] => true
  | p :: q :: r => ltB p q && asc (q :: r)
end My
/-! repr of data -/
namespace My
open PySem PySem.Spec PyProof.Rows L2 Evl
def rReprD (K : PySem.W.Frag) : List V → Hp → VK → Prop := fun xs H Q => ∃ (a : Addr) (d : PyData), xs = [.ref a] ∧ Dp K H (.ref a) d ∧ d.showable = true ∧ d.hasDict = false ∧ d.depth ≤ 32 ∧ d.shown.length ≤ sizeLine ∧ Q (.str d.shown) H
theorem call_reprD {X : Cx} (hg : X.A.guards = some []) (hu : X.A.units + 64 < cLine) : CallR X (.builtin "repr") (rReprD X.K) := by
  intro pins s σ H xs us Q I r h
  obtain ⟨a, d, rfl, hd, h1, h2, h3, h4, q⟩ := h
  obtain ⟨u, rfl, ru⟩ := vals1 r
  obtain ⟨as, hr⟩ := Dp.reads I d _ _ hd ru
  cases ru
  exact repr_of_reads' hr h1 (fun z => by rw [h2] at z; cases z) hg (by omega) (fun _ _ e => e) (fun h' u tk hk => ⟨.str d.shown, H, I.kept (t' := tk) hk, ⟨u, rfl⟩, q⟩) h4
def SmI (i : Int) : Prop := 0 ≤ i ∧ i < 1000
theorem smI_show {i : Int} (h : SmI i) : (PyData.int i).showable = true := by
  unfold PyData.showable
  refine decide_eq_true ?_
  obtain ⟨h1, h2⟩ := h
  have : i.natAbs < 2 ^ 10 := by omega
  rcases Nat.eq_zero_or_pos i.natAbs with z | z
  · rw [z]; decide
  · have := (Nat.log2_lt (by omega)).mpr this
    omega
theorem smI_len {i : Int} (h : SmI i) : (PyData.int i).shown.length ≤ 10 := toString_length_le h.1 (by decide) (by have := h.2; omega)
theorem smI_short {i : Int} (h : SmI i) : (PyData.int i).leavesShort 10 = true := by
  unfold PyData.leavesShort
  exact decide_eq_true (smI_len h)
theorem smI_w {i : Int} (h : SmI i) : (PyData.int i).weight ≤ 12 := by
  unfold PyData.weight
  obtain ⟨h1, h2⟩ := h
  have h3 : i.natAbs < 2 ^ 10 := by omega
  by_cases z : i = 0
  · subst z
    decide
  · rw [if_neg (by simpa using z)]
    have := (Nat.log2_lt (by omega)).mpr h3
    omega
theorem wt_nil : PyData.weightAll [] = 0 := by unfold PyData.weightAll; rfl
theorem wt_cons (x : PyData) (xs : List PyData) : PyData.weightAll (x :: xs) = x.weight + 1 + PyData.weightAll xs := by
  rw [PyData.weightAll]
theorem wt_tup (xs : List PyData) : (PyData.tuple xs).weight = PyData.weightAll xs := by rw [PyData.weight]
theorem getD_mem {α : Type} {l : List α} {i : Nat} {d : α} (h : i < l.length) : l.getD i d ∈ l := by
  rw [List.getD_eq_getElem?_getD, List.getElem?_eq_getElem h]
  exact List.getElem_mem h
end My
/-! data of any depth: values by what they say -/
namespace My
open PySem PySem.Spec PyProof.Rows L2 Evl
mutual
/-- the value says the data (an empty dict too) -/
inductive Dq (K : PySem.W.Frag) (H : Hp) : V → PyData → Prop
  | non : Dq K H .non .none
  | bl (b : Bool) : Dq K H (.bl b) (.bool b)
  | int (i : Int) : Dq K H (.int i) (.int i)
  | str (x : Str) : Dq K H (.str x) (.str x)
  | lst {a : Addr} {xs : List V} {ds : List PyData} : SqL K H a xs → DqAll K H xs ds → Dq K H (.ref a) (.list ds)
  | tup {a : Addr} {xs : List V} {ds : List PyData} : SqT K H a xs → DqAll K H xs ds → Dq K H (.ref a) (.tuple ds)
  | emp {a : Addr} : H a = some (.dK []) → Dq K H (.ref a) (.dict [])
inductive DqAll (K : PySem.W.Frag) (H : Hp) : List V → List PyData → Prop
  | nil : DqAll K H [] []
  | cons {v : V} {vs : List V} {d : PyData} {ds : List PyData} : Dq K H v d → DqAll K H vs ds → DqAll K H (v :: vs) (d :: ds)
end
section
variable {K : PySem.W.Frag} {H H' : Hp}
mutual
theorem Dq.up (e : Ex H H') : ∀ {v : V} {d : PyData}, Dq K H v d → Dq K H' v d
  | _, _, .non => .non
  | _, _, .bl b => .bl b
  | _, _, .int i => .int i
  | _, _, .str x => .str x
  | _, _, .lst h r => .lst (ex_l e h) (DqAll.up e r)
  | _, _, .tup h r => .tup (ex_t e h) (DqAll.up e r)
  | _, _, .emp h => .emp (e _ _ h)
theorem DqAll.up (e : Ex H H') : ∀ {vs : List V} {ds : List PyData}, DqAll K H vs ds → DqAll K H' vs ds
  | _, _, .nil => .nil
  | _, _, .cons h r => .cons (h.up e) (DqAll.up e r)
end
mutual
theorem Dq.dp : ∀ {v : V} {d : PyData}, Dq K H v d → d.hasDict = false → Dp K H v d
  | _, _, .non, _ => .non
  | _, _, .bl b, _ => .bl b
  | _, _, .int i, _ => .int i
  | _, _, .str x, _ => .str x
  | _, _, .lst h r, z => .lst h (DqAll.dp r (by rw [PyData.hasDict] at z; exact z))
  | _, _, .tup h r, z => .tup h (DqAll.dp r (by rw [PyData.hasDict] at z; exact z))
  | _, _, .emp _, z => by rw [PyData.hasDict] at z; cases z
theorem DqAll.dp : ∀ {vs : List V} {ds : List PyData}, DqAll K H vs ds → PyData.hasDictAll ds = false → DpAll K H vs ds
  | _, _, .nil, _ => .nil
  | _, _, .cons h r, z => by
    rw [PyData.hasDictAll, Bool.or_eq_false_iff] at z
    exact .cons (h.dp z.1) (DqAll.dp r z.2)
end
theorem DqAll.len : ∀ {vs : List V} {ds : List PyData}, DqAll K H vs ds → vs.length = ds.length
  | _, _, .nil => rfl
  | _, _, .cons _ r => congrArg (· + 1) r.len
theorem DqAll.app : ∀ {vs : List V} {ds : List PyData} {us : List V} {es : List PyData}, DqAll K H vs ds → DqAll K H us es → DqAll K H (vs ++ us) (ds ++ es)
  | _, _, _, _, .nil, k => k
  | _, _, _, _, .cons h r, k => .cons h (r.app k)
theorem DqAll.get : ∀ {vs : List V} {ds : List PyData}, DqAll K H vs ds → ∀ (i : Nat) (d : PyData), ds[i]? = some d → ∃ v, vs[i]? = some v ∧ Dq K H v d
  | _, _, .nil, _, _, h => nomatch h
  | _, _, .cons h r, 0, x, e => ⟨_, rfl, by cases e; exact h⟩
  | _, _, .cons h r, i + 1, x, e => r.get i x e
theorem DqAll.at_ : ∀ {vs : List V} {ds : List PyData}, DqAll K H vs ds → ∀ (i : Nat) (v : V), vs[i]? = some v → ∃ d, ds[i]? = some d ∧ Dq K H v d
  | _, _, .nil, _, _, h => nomatch h
  | _, _, .cons h r, 0, x, e => ⟨_, rfl, by cases e; exact h⟩
  | _, _, .cons h r, i + 1, x, e => r.at_ i x e
theorem DqAll.take : ∀ (n : Nat) {vs : List V} {ds : List PyData}, DqAll K H vs ds → DqAll K H (vs.take n) (ds.take n)
  | 0, _, _, _ => .nil
  | n + 1, _, _, .nil => .nil
  | n + 1, _, _, .cons h r => .cons h (DqAll.take n r)
theorem DqAll.drop : ∀ (n : Nat) {vs : List V} {ds : List PyData}, DqAll K H vs ds → DqAll K H (vs.drop n) (ds.drop n)
  | 0, _, _, h => h
  | n + 1, _, _, .nil => .nil
  | n + 1, _, _, .cons h r => DqAll.drop n r
theorem DqAll.ints : ∀ ns : List Int, DqAll K H (ns.map V.int) (ns.map PyData.int)
  | [] => .nil
  | n :: r => .cons (.int n) (DqAll.ints r)
theorem DqAll.ints_eq : ∀ {vs : List V} {ns : List Int}, DqAll K H vs (ns.map PyData.int) → vs = ns.map V.int
  | _, [], .nil => rfl
  | _, n :: r, .cons h t => by
    cases h
    rw [t.ints_eq]
    rfl
theorem Dq.int_eq {v : V} {i : Int} (h : Dq K H v (.int i)) : v = .int i := by cases h; rfl
theorem Dq.bl_eq {v : V} {b : Bool} (h : Dq K H v (.bool b)) : v = .bl b := by cases h; rfl
theorem Dq.non_eq {v : V} (h : Dq K H v .none) : v = .non := by cases h; rfl
theorem Dq.str_eq {v : V} {x : Str} (h : Dq K H v (.str x)) : v = .str x := by cases h; rfl
theorem atI_map {α β : Type} (f : α → β) (xs : List α) (i : Int) : atI (xs.map f) i = (atI xs i).map f := by
  unfold atI
  rw [List.length_map]
  cases ixN xs.length i with
  | none => rfl
  | some j => exact List.getElem?_map ..
theorem DqAll.atI {vs : List V} {ds : List PyData} (h : DqAll K H vs ds) {i : Int} {d : PyData} (e : L2.atI ds i = some d) : ∃ v, L2.atI vs i = some v ∧ Dq K H v d := by
  unfold L2.atI at e ⊢
  rw [h.len]
  cases z : ixN ds.length i with
  | none => rw [z] at e; cases e
  | some j =>
    rw [z] at e
    exact h.get j d e
/-! ### pairs, lists of them -/
def prD (t : Int × Int) : PyData := .tuple [.int t.1, .int t.2]
theorem PairV.dq {x : V} {t : Int × Int} (h : PairV H x t) : Dq K H x (prD t) := by
  obtain ⟨a, rfl, h⟩ := h
  exact .tup (SqT.of h) (.cons (.int _) (.cons (.int _) .nil))
theorem PrL.dq : ∀ {xs : List V} {ps : List (Int × Int)}, PrL H xs ps → DqAll K H xs (ps.map prD)
  | _, _, .nil => .nil
  | _, _, .cons h r => .cons h.dq (PrL.dq r)
theorem Dq.pair {x : V} {t : Int × Int} (h : Dq K H x (prD t)) : ∃ a, x = .ref a ∧ SqT K H a [.int t.1, .int t.2] := by
  cases h with
  | tup h r =>
    cases r with
    | cons h1 r =>
      cases r with
      | cons h2 r =>
        cases r
        cases h1
        cases h2
        exact ⟨_, rfl, h⟩
end
/-! ### the part of the heap that is looked at -/
/-- the part B1 of H1 has grown to the part B2 of H2 by new objects alone -/
structure Gr (B1 H1 B2 H2 : Hp) : Prop where
  b : Ex B1 B2
  s : Ex B2 H2
  h : Ex H1 H2
  n : ∀ a, B1 a = none → H1 a ≠ none → B2 a = none
  t : ∀ a ps, B2 a = some (.tbl ps) → B1 a = some (.tbl ps)
theorem Gr.refl {B H : Hp} (s : Ex B H) : Gr B H B H := ⟨Ex.refl _, s, Ex.refl _, fun _ h _ => h, fun _ _ h => h⟩
theorem Gr.trans {B1 H1 B2 H2 B3 H3 : Hp} (a : Gr B1 H1 B2 H2) (b : Gr B2 H2 B3 H3) : Gr B1 H1 B3 H3 := ⟨a.b.trans b.b, b.s, a.h.trans b.h, fun c h1 h2 => b.n c (a.n c h1 h2) (fun z => by
  cases q : H1 c with
  | none => exact h2 q
  | some o => rw [a.h c o q] at z; cases z), fun c ps h => a.t c ps (b.t c ps h)⟩
theorem Gr.of {B H H2 : Hp} (s : Ex B H) (e : Ex H H2) : Gr B H B H2 := ⟨Ex.refl _, s.trans e, e, fun _ h _ => h, fun _ _ h => h⟩
theorem none_of {B H : Hp} (s : Ex B H) {a : Addr} (h : H a = none) : B a = none := by
  cases z : B a with
  | none => rfl
  | some o => rw [s a o z] at h; cases h
theorem ex_upd2 {B H : Hp} {p : Addr} {o : HO} (s : Ex B H) : Ex (upd B p o) (upd H p o) := fun b u e => by
  by_cases z : b = p
  · subst z
    rw [upd_same] at e ⊢
    exact e
  · rw [upd_ne z] at e ⊢
    exact s b u e
theorem Gr.new {B H : Hp} {p : Addr} {o : HO} (s : Ex B H) (hp : H p = none) (ht : ∀ ps, o ≠ .tbl ps) : Gr B H (upd B p o) (upd H p o) :=
  ⟨Ex.new (none_of s hp), ex_upd2 s, Ex.new hp, fun a h1 h2 => (upd_ne (fun z => h2 (by rw [z]; exact hp))).trans h1, fun a ps h => by
    by_cases z : a = p
    · subst z
      rw [upd_same] at h
      exact absurd (Option.some.inj h) (ht ps)
    · rw [upd_ne z] at h
      exact h⟩
/-- an own object that stands beside the part is taken into it -/
theorem Gr.take {B1 H1 B2 H2 : Hp} {p : Addr} {o : HO} (g : Gr B1 H1 B2 H2) (h1 : H1 p = none) (h2 : B2 p = none) (h3 : H2 p = some o) (ht : ∀ ps, o ≠ .tbl ps) : Gr B1 H1 (upd B2 p o) H2 :=
  ⟨g.b.trans (Ex.new h2), fun b u e => by
    by_cases z : b = p
    · subst z
      rw [upd_same] at e
      cases e
      exact h3
    · rw [upd_ne z] at e
      exact g.s b u e, g.h, fun a k1 k2 => (upd_ne (fun z => k2 (by rw [z]; exact h1))).trans (g.n a k1 k2), fun a ps h => by
    by_cases z : a = p
    · subst z
      rw [upd_same] at h
      exact absurd (Option.some.inj h) (ht ps)
    · rw [upd_ne z] at h
      exact g.t a ps h⟩
/-- an own object beside the part is written -/
theorem Gr.own {B1 H1 B2 H2 : Hp} {p : Addr} {o : HO} (g : Gr B1 H1 B2 H2) (h1 : H1 p = none) (h2 : B2 p = none) : Gr B1 H1 B2 (upd H2 p o) :=
  ⟨g.b, fun b u e => (upd_ne (ne_of_none e h2)).trans (g.s b u e), Ex.mut g.h h1, g.n, g.t⟩
/-! ### words by data -/
def EvD (K : PySem.W.Frag) (te : TE) (σ : L2.St) (B : Hp) (d : PyData) : Prop := ∀ B1 H1, Ex B B1 → Ex B1 H1 → ∀ Q : VK, (∀ v B2 H2, Gr B1 H1 B2 H2 → Dq K B2 v d → Q v H2) → te σ H1 Q
def EaD (K : PySem.W.Frag) (ta : TA) (σ : L2.St) (B : Hp) (ds : List PyData) : Prop := ∀ B1 H1, Ex B B1 → Ex B1 H1 → ∀ Q : List V → Hp → Prop, (∀ vs B2 H2, Gr B1 H1 B2 H2 → DqAll K B2 vs ds → Q vs H2) → ta σ H1 Q
/-- a new list of data, kept beside the part -/
def EvN (K : PySem.W.Frag) (te : TE) (σ : L2.St) (B : Hp) (ds : List PyData) : Prop := ∀ B1 H1, Ex B B1 → Ex B1 H1 → ∀ Q : VK, (∀ p xs B2 H2, Gr B1 H1 B2 H2 → H1 p = none → B2 p = none → H2 p = some (.lst xs) → DqAll K B2 xs ds → Q (.ref p) H2) → te σ H1 Q
theorem lst_nt {xs : List V} : ∀ ps, HO.lst xs ≠ .tbl ps := fun _ z => by cases z
theorem tup_nt {xs : List V} : ∀ ps, HO.tup xs ≠ .tbl ps := fun _ z => by cases z
section
variable {K : PySem.W.Frag} {σ : L2.St} {B : Hp} {te ta tb : TE} {d e : PyData} {ds es : List PyData}
theorem EvD.mono {B' : Hp} (e : Ex B B') (h : EvD K te σ B d) : EvD K te σ B' d := fun B1 H1 a s Q q => h B1 H1 (e.trans a) s Q q
theorem EvN.mono {B' : Hp} (e : Ex B B') (h : EvN K te σ B ds) : EvN K te σ B' ds := fun B1 H1 a s Q q => h B1 H1 (e.trans a) s Q q
theorem ed_ev {v : V} (h : Ev te σ B v) (hd : Dq K B v d) : EvD K te σ B d := fun B1 H1 e1 s Q q => h H1 (e1.trans s) _ fun H2 e2 => q v B1 H2 (.of s e2) (hd.up e1)
theorem ed_var {i : Nat} {v : V} (h : σ[i]? = some (some v)) (hd : Dq K B v d) : EvD K (tVar i) σ B d := ed_ev (ev_var h) hd
theorem ed_int {i : Int} (h : Ev te σ B (.int i)) : EvD K te σ B (.int i) := ed_ev h (.int i)
theorem ed_bl {b : Bool} (h : Ev te σ B (.bl b)) : EvD K te σ B (.bool b) := ed_ev h (.bl b)
theorem ed_str {x : Str} (h : Ev te σ B (.str x)) : EvD K te σ B (.str x) := ed_ev h (.str x)
theorem ed_non (h : Ev te σ B .non) : EvD K te σ B .none := ed_ev h .non
theorem ed_is (h : EvD K te σ B d) (e' : d = e) : EvD K te σ B e := e' ▸ h
theorem ev_dI {i : Int} (h : EvD K te σ B (.int i)) : Ev te σ B (.int i) := fun H1 e1 Q q => h B H1 (Ex.refl _) e1 _ fun v B2 H2 g hv => by
  rw [hv.int_eq]
  exact q H2 g.h
theorem ev_dB {b : Bool} (h : EvD K te σ B (.bool b)) : Ev te σ B (.bl b) := fun H1 e1 Q q => h B H1 (Ex.refl _) e1 _ fun v B2 H2 g hv => by
  rw [hv.bl_eq]
  exact q H2 g.h
theorem ev_dS {x : Str} (h : EvD K te σ B (.str x)) : Ev te σ B (.str x) := fun H1 e1 Q q => h B H1 (Ex.refl _) e1 _ fun v B2 H2 g hv => by
  rw [hv.str_eq]
  exact q H2 g.h
theorem ead_nil : EaD K tNil σ B [] := fun B1 H1 _ s Q q => q [] B1 H1 (.refl s) .nil
theorem ead_cons {tr : TA} (h : EvD K te σ B d) (hr : EaD K tr σ B ds) : EaD K (tCons te tr) σ B (d :: ds) := fun B1 H1 e1 s Q q => h B1 H1 e1 s _ fun v B2 H2 g hv => hr B2 H2 (e1.trans g.b) g.s _ fun vs B3 H3 g2 hvs => q _ B3 H3 (g.trans g2) (.cons (hv.up g2.b) hvs)
theorem ed_tup {t : TA} (h : EaD K t σ B ds) (hl : ds.length ≤ 100000) : EvD K (tTup t) σ B (.tuple ds) := fun B1 H1 e1 s Q q =>
  h B1 H1 e1 s _ fun vs B2 H2 g hvs => ⟨by rw [hvs.len]; exact sz_of hl, fun p hp => q _ _ _ (g.trans (.new g.s hp tup_nt)) (.tup (SqT.of upd_same) (hvs.up (Ex.new (none_of g.s hp))))⟩
theorem en_lst {t : TA} (h : EaD K t σ B ds) (hl : ds.length ≤ 100000) : EvN K (tLst t) σ B ds := fun B1 H1 e1 s Q q =>
  h B1 H1 e1 s _ fun vs B2 H2 g hvs => ⟨by rw [hvs.len]; exact sz_of hl, fun p hp => q p vs B2 _ (g.own (none_of g.h hp) (none_of g.s hp)) (none_of g.h hp) (none_of g.s hp) upd_same hvs⟩
theorem ed_N (h : EvN K te σ B ds) : EvD K te σ B (.list ds) := fun B1 H1 e1 s Q q => h B1 H1 e1 s _ fun p xs B2 H2 g h1 h2 hp hx => q _ _ H2 (g.take h1 h2 hp lst_nt) (.lst (SqL.of upd_same) (hx.up (Ex.new h2)))
theorem en_is (h : EvN K te σ B ds) (e' : ds = es) : EvN K te σ B es := e' ▸ h
theorem el_of_N {ns : List Int} (h : EvN K te σ B (ns.map PyData.int)) : EvL te σ B (ns.map V.int) := fun H1 e1 Q q => h B H1 (Ex.refl _) e1 _ fun p xs B2 H2 g h1 _ hp hx => q p H2 h1 g.h (by rw [← hx.ints_eq]; exact hp)
theorem en_of_L {xs : List V} (h : EvL te σ B xs) (hx : DqAll K B xs ds) : EvN K te σ B ds := fun B1 H1 e1 s Q q => h H1 (e1.trans s) _ fun p H2 hp e2 h2 => q p xs B1 H2 (.of s e2) hp (none_of s hp) h2 (hx.up e1)
theorem ed_ixT {ti : TE} {j : Int} (h : EvD K te σ B (.tuple ds)) (hi : Ev ti σ B (.int j)) (hj : atI ds j = some d) : EvD K (tOp (rIxT K) te ti) σ B d := fun B1 H1 e1 s Q q =>
  h B1 H1 e1 s _ fun v B2 H2 g hv => hi H2 ((e1.trans g.b).trans g.s) _ fun H3 e3 => by
    cases hv with
    | tup hs hx =>
      obtain ⟨z, hz, hd⟩ := hx.atI hj
      exact ⟨_, _, _, z, rfl, rfl, ex_t (g.s.trans e3) hs, hz, q z B2 H3 (g.trans (.of g.s e3)) hd⟩
theorem ed_ixL {ti : TE} {j : Int} (h : EvD K te σ B (.list ds)) (hi : Ev ti σ B (.int j)) (hj : atI ds j = some d) : EvD K (tOp (rIxL K) te ti) σ B d := fun B1 H1 e1 s Q q =>
  h B1 H1 e1 s _ fun v B2 H2 g hv => hi H2 ((e1.trans g.b).trans g.s) _ fun H3 e3 => by
    cases hv with
    | lst hs hx =>
      obtain ⟨z, hz, hd⟩ := hx.atI hj
      exact ⟨_, _, _, z, rfl, rfl, ex_l (g.s.trans e3) hs, hz, q z B2 H3 (g.trans (.of g.s e3)) hd⟩
theorem ev_lenT (h : EvD K te σ B (.tuple ds)) : Ev (tCB (rLenS K) (tCons te tNil)) σ B (.int (ds.length : Int)) := fun H1 e1 Q q => h B H1 (Ex.refl _) e1 _ fun v B2 H2 g hv => by
  cases hv with
  | tup hs hx => exact ⟨_, _, rfl, .inr (ex_t g.s hs), by rw [hx.len]; exact q H2 g.h⟩
theorem ev_lenD (h : EvD K te σ B (.list ds)) : Ev (tCB (rLenS K) (tCons te tNil)) σ B (.int (ds.length : Int)) := fun H1 e1 Q q => h B H1 (Ex.refl _) e1 _ fun v B2 H2 g hv => by
  cases hv with
  | lst hs hx => exact ⟨_, _, rfl, .inl (ex_l g.s hs), by rw [hx.len]; exact q H2 g.h⟩
/-- data that may be compared -/
structure Cmp (d : PyData) : Prop where
  nd : d.hasDict = false
  sh : SeqAt.shaped d = true
theorem rel_D {r : R2} {z : Bool} (hr : ∀ x y H, Dp K H x d → Dp K H y e → ∀ Q : VK, Q (.bl z) H → r x y H Q) (h : EvD K ta σ B d) (k : EvD K tb σ B e) (cd : Cmp d) (ce : Cmp e) : Ev (tOp r ta tb) σ B (.bl z) := fun H1 e1 Q q =>
  h B H1 (Ex.refl _) e1 _ fun v B2 H2 g hv => k B2 H2 g.b g.s _ fun u B3 H3 g2 hu => hr v u H3 ((hv.up (g2.b.trans g2.s)).dp cd.nd) ((hu.up g2.s).dp ce.nd) Q (q H3 (g.h.trans g2.h))
theorem ev_eqD (h : EvD K ta σ B d) (k : EvD K tb σ B e) (cd : Cmp d) (ce : Cmp e) : Ev (tOp (rEqD K) ta tb) σ B (.bl (PyData.eqv d e)) := rel_D (fun x y H h1 h2 Q q => ⟨d, e, h1, h2, cd.sh, ce.sh, q⟩) h k cd ce
theorem ev_neD (h : EvD K ta σ B d) (k : EvD K tb σ B e) (cd : Cmp d) (ce : Cmp e) : Ev (tOp (rNeD K) ta tb) σ B (.bl (!PyData.eqv d e)) := rel_D (fun x y H h1 h2 Q q => ⟨d, e, h1, h2, cd.sh, ce.sh, q⟩) h k cd ce
theorem ev_inD (h : EvD K ta σ B d) (k : EvD K tb σ B (.list ds)) (cd : Cmp d) (ce : Cmp (.list ds)) : Ev (tOp (rInD K) ta tb) σ B (.bl (ds.any fun z => PyData.eqv z d)) := rel_D (fun x y H h1 h2 Q q => ⟨d, ds, h1, h2, cd.sh, ce.sh, q⟩) h k cd ce
theorem ev_niD (h : EvD K ta σ B d) (k : EvD K tb σ B (.list ds)) (cd : Cmp d) (ce : Cmp (.list ds)) : Ev (tOp (rNotInD K) ta tb) σ B (.bl (!ds.any fun z => PyData.eqv z d)) := rel_D (fun x y H h1 h2 Q q => ⟨d, ds, h1, h2, cd.sh, ce.sh, q⟩) h k cd ce
/-- data that repr may show -/
structure Rpr (d : PyData) : Prop where
  nd : d.hasDict = false
  sh : d.showable = true
  dp : d.depth ≤ 32
  len : d.shown.length ≤ sizeLine
theorem ev_repr (h : EvD K te σ B d) (hr : Rpr d) (hs : (∃ xs, d = .list xs) ∨ ∃ xs, d = .tuple xs) : Ev (tCB (rReprD K) (tCons te tNil)) σ B (.str d.shown) := fun H1 e1 Q q => h B H1 (Ex.refl _) e1 _ fun v B2 H2 g hv => by
  have hp := (hv.up g.s).dp hr.nd
  rcases hs with ⟨xs, rfl⟩ | ⟨xs, rfl⟩
  · cases hp with
    | lst a b => exact ⟨_, _, rfl, .lst a b, hr.sh, hr.nd, hr.dp, hr.len, q H2 g.h⟩
  · cases hp with
    | tup a b => exact ⟨_, _, rfl, .tup a b, hr.sh, hr.nd, hr.dp, hr.len, q H2 g.h⟩
/-! ### slices, sums -/
def cutD (ds : List PyData) (lo hi : Option Int) : List PyData := (ds.drop (HT.sIx ds.length 0 lo)).take (HT.sIx ds.length ds.length hi - HT.sIx ds.length 0 lo)
theorem cutV_dq {H : Hp} {xs : List V} {ds : List PyData} (h : DqAll K H xs ds) (lo hi : Option Int) : DqAll K H (cutV xs lo hi) (cutD ds lo hi) := by
  unfold cutV cutD
  rw [h.len]
  exact DqAll.take _ (DqAll.drop _ h)
theorem cutD_from (xs : List PyData) (n : Nat) : cutD xs (some (n : Int)) none = xs.drop n := by
  unfold cutD
  have h1 : HT.sIx xs.length xs.length none = xs.length := rfl
  have h0 : HT.sIx xs.length 0 (some (n : Int)) = min n xs.length := by
    unfold HT.sIx
    simp
    omega
  rw [h1, h0]
  by_cases h : n ≤ xs.length
  · rw [Nat.min_eq_left h, List.take_of_length_le (by rw [List.length_drop]; exact Nat.le_refl _)]
  · rw [Nat.min_eq_right (by omega), List.drop_eq_nil_of_le (Nat.le_refl _), List.drop_eq_nil_of_le (by omega), List.take_nil]
theorem cutD_to (xs : List PyData) (n : Nat) : cutD xs none (some (n : Int)) = xs.take n := by
  unfold cutD
  have h1 : HT.sIx xs.length 0 none = 0 := rfl
  have h0 : HT.sIx xs.length xs.length (some (n : Int)) = min n xs.length := by
    unfold HT.sIx
    simp
    omega
  rw [h1, h0, List.drop_zero, Nat.sub_zero]
  by_cases h : n ≤ xs.length
  · rw [Nat.min_eq_left h]
  · rw [Nat.min_eq_right (by omega), List.take_length, List.take_of_length_le (by omega)]
theorem ed_slT {tl th : TO} {lo hi : Option Int} (h : EvD K te σ B (.tuple ds)) (h1 : EvO tl σ B lo) (h2 : EvO th σ B hi) : EvD K (tSl (rSlA K) te tl th) σ B (.tuple (cutD ds lo hi)) := fun B1 H1 e s Q q =>
  h B1 H1 e s _ fun v B2 H2 g hv => h1 H2 ((e.trans g.b).trans g.s) _ fun H3 e3 => h2 H3 (((e.trans g.b).trans g.s).trans e3) _ fun H4 e4 => by
    have g4 : Gr B1 H1 B2 H4 := g.trans (.of g.s (e3.trans e4))
    cases hv with
    | tup hs hx => exact ⟨_, _, rfl, ex_t g4.s hs, fun w => by
        have z := cut_whole w
        refine q _ B2 H4 g4 (.tup hs ?_)
        have c := cutV_dq hx lo hi
        rw [z] at c
        exact c, fun _ p hp => q _ _ _ (g4.trans (.new g4.s hp tup_nt)) (.tup (st_of upd_same) ((cutV_dq hx lo hi).up (Ex.new (none_of g4.s hp))))⟩
theorem en_slL {tl th : TO} {lo hi : Option Int} (h : EvD K te σ B (.list ds)) (h1 : EvO tl σ B lo) (h2 : EvO th σ B hi) : EvN K (tSl (rSlL K) te tl th) σ B (cutD ds lo hi) := fun B1 H1 e s Q q =>
  h B1 H1 e s _ fun v B2 H2 g hv => h1 H2 ((e.trans g.b).trans g.s) _ fun H3 e3 => h2 H3 (((e.trans g.b).trans g.s).trans e3) _ fun H4 e4 => by
    have g4 : Gr B1 H1 B2 H4 := g.trans (.of g.s (e3.trans e4))
    cases hv with
    | lst hs hx => exact ⟨_, _, rfl, ex_l g4.s hs, fun p hp => q p _ B2 _ (g4.own (none_of g4.h hp) (none_of g4.s hp)) (none_of g4.h hp) (none_of g4.s hp) upd_same (cutV_dq hx lo hi)⟩
theorem ed_catT (h : EvD K ta σ B (.tuple ds)) (k : EvD K tb σ B (.tuple es)) (hz : ds.length + es.length ≤ 100000) : EvD K (tOp (rCatA K) ta tb) σ B (.tuple (ds ++ es)) := fun B1 H1 e s Q q =>
  h B1 H1 e s _ fun u B2 H2 g hu => k B2 H2 (e.trans g.b) g.s _ fun v B3 H3 g2 hv => by
    have g3 := g.trans g2
    cases hu.up g2.b with
    | tup ha hx =>
      cases hv with
      | tup hb hy =>
        refine ⟨_, _, _, _, rfl, rfl, ex_t g3.s ha, ex_t g3.s hb, by rw [hx.len, hy.len]; exact sz_of hz, fun z => ?_, fun _ z => ?_, fun _ _ p hp => q _ _ _ (g3.trans (.new g3.s hp tup_nt)) (.tup (st_of upd_same) ((hx.app hy).up (Ex.new (none_of g3.s hp))))⟩
        · subst z
          cases hx
          exact q _ B3 H3 g3 (.tup hb hy)
        · subst z
          cases hy
          rw [List.append_nil] at q
          exact q _ B3 H3 g3 (.tup ha hx)
/-- a list that stands there, in the part or beside it -/
def EvT' (K : PySem.W.Frag) (te : TE) (σ : L2.St) (B : Hp) (ds : List PyData) : Prop := ∀ B1 H1, Ex B B1 → Ex B1 H1 → ∀ Q : VK, (∀ l xs B2 H2, Gr B1 H1 B2 H2 → H2 l = some (.lst xs) → DqAll K B2 xs ds → Q (.ref l) H2) → te σ H1 Q
theorem en_to (h : EvN K te σ B ds) : EvT' K te σ B ds := fun B1 H1 e s Q q => h B1 H1 e s _ fun p xs B2 H2 g _ _ h3 h4 => q p xs B2 H2 g h3 h4
/-- the sum of two lists -/
theorem en_cat (ha : EvT' K ta σ B ds) (hb : EvT' K tb σ B es) (hz : ds.length + es.length ≤ 100000) : EvN K (tOp rCat ta tb) σ B (ds ++ es) := fun B1 H1 e s Q q =>
  ha B1 H1 e s _ fun l xs B2 H2 g hl hx => hb B2 H2 (e.trans g.b) g.s _ fun p ys B3 H3 g2 hp hy => by
    have g3 := g.trans g2
    exact ⟨l, p, xs, ys, rfl, rfl, g2.h _ _ hl, hp, by rw [hx.len, hy.len]; exact sz_of hz, fun r hr => q r (xs ++ ys) B3 _ (g3.own (none_of g3.h hr) (none_of g3.s hr)) (none_of g3.h hr) (none_of g3.s hr) upd_same ((hx.up g2.b).app hy)⟩
/-- tuple(list), tuple(tuple), list(..) -/
def rTupS (K : PySem.W.Frag) : List V → Hp → VK → Prop := fun xs H Q => ∃ p ys, xs = [.ref p] ∧ ((SqL K H p ys ∧ ∀ l, H l = none → Q (.ref l) (upd H l (.tup ys))) ∨ (SqT K H p ys ∧ Q (.ref p) H))
theorem ed_tupOfN (h : EvT' K te σ B ds) : EvD K (tCB (rTupS K) (tCons te tNil)) σ B (.tuple ds) := fun B1 H1 e s Q q => h B1 H1 e s _ fun l xs B2 H2 g hl hx =>
  ⟨l, xs, rfl, .inl ⟨SqL.of hl, fun p hp => q _ _ _ (g.trans (.new g.s hp tup_nt)) (.tup (SqT.of upd_same) (hx.up (Ex.new (none_of g.s hp))))⟩⟩
theorem ed_tupOfL (h : EvD K te σ B (.list ds)) : EvD K (tCB (rTupS K) (tCons te tNil)) σ B (.tuple ds) := fun B1 H1 e s Q q => h B1 H1 e s _ fun v B2 H2 g hv => by
  cases hv with
  | lst hs hx => exact ⟨_, _, rfl, .inl ⟨ex_l g.s hs, fun l hl => q _ _ _ (g.trans (.new g.s hl tup_nt)) (.tup (SqT.of upd_same) (hx.up (Ex.new (none_of g.s hl))))⟩⟩
theorem ed_tupOfT (h : EvD K te σ B (.tuple ds)) : EvD K (tCB (rTupS K) (tCons te tNil)) σ B (.tuple ds) := fun B1 H1 e s Q q => h B1 H1 e s _ fun v B2 H2 g hv => by
  cases hv with
  | tup hs hx => exact ⟨_, _, rfl, .inr ⟨ex_t g.s hs, q _ B2 H2 g (.tup hs hx)⟩⟩
theorem en_listOfN (h : EvT' K te σ B ds) : EvN K (tCB (rListS K) (tCons te tNil)) σ B ds := fun B1 H1 e s Q q => h B1 H1 e s _ fun l xs B2 H2 g hl hx =>
  ⟨l, xs, rfl, .inl (SqL.of hl), fun p hp => q p _ B2 _ (g.own (none_of g.h hp) (none_of g.s hp)) (none_of g.h hp) (none_of g.s hp) upd_same hx⟩
theorem en_listOf (h : EvD K te σ B (.list ds) ∨ EvD K te σ B (.tuple ds)) : EvN K (tCB (rListS K) (tCons te tNil)) σ B ds := fun B1 H1 e s Q q => by
  rcases h with h | h
  · exact h B1 H1 e s _ fun v B2 H2 g hv => by
      cases hv with
      | lst hs hx => exact ⟨_, _, rfl, .inl (ex_l g.s hs), fun p hp => q p _ B2 _ (g.own (none_of g.h hp) (none_of g.s hp)) (none_of g.h hp) (none_of g.s hp) upd_same hx⟩
  · exact h B1 H1 e s _ fun v B2 H2 g hv => by
      cases hv with
      | tup hs hx => exact ⟨_, _, rfl, .inr (ex_t g.s hs), fun p hp => q p _ B2 _ (g.own (none_of g.h hp) (none_of g.s hp)) (none_of g.h hp) (none_of g.s hp) upd_same hx⟩
/-! ### a comprehension of data -/
def givenD (n : Nat) (f : Nat → Bool) (k : Nat → PyData) : List PyData := ((List.range n).filter f).map k
theorem givenD_yes {n : Nat} {f : Nat → Bool} {k : Nat → PyData} (h : f n = true) : givenD (n + 1) f k = givenD n f k ++ [k n] := by
  unfold givenD
  rw [List.range_succ, List.filter_append, List.map_append, List.filter_cons, if_pos h]
  rfl
theorem givenD_no {n : Nat} {f : Nat → Bool} {k : Nat → PyData} (h : f n = false) : givenD (n + 1) f k = givenD n f k := by
  unfold givenD
  rw [List.range_succ, List.filter_append, List.map_append, List.filter_cons, if_neg (by rw [h]; exact Bool.false_ne_true)]
  simp
theorem givenD_len (n : Nat) (f : Nat → Bool) (k : Nat → PyData) : (givenD n f k).length ≤ n := by
  unfold givenD
  rw [List.length_map]
  exact Nat.le_trans (List.length_filter_le ..) (by rw [List.length_range]; exact Nat.le_refl _)
theorem givenD_all {n : Nat} {k : Nat → PyData} : givenD n (fun _ => true) k = (List.range n).map k := by
  unfold givenD
  rw [List.filter_eq_self.mpr fun _ _ => rfl]
/-- an item that the walk gives: nothing of the part is gone, it says d in the part -/
theorem en_lcW {wi : TI} {g : TG} {tt : TT} {vs : List Nat} {n : Nat} {Y : Nat → Hp → V → Hp → Prop} (f : Nat → Bool) (k : Nat → PyData) (hn : n ≤ 40000)
    (hw : ∀ B1 H1, Ex B B1 → Ex B1 H1 → ∀ R : It → Hp → Prop, (∀ J B2 H2, Gr B1 H1 B2 H2 → Walk J n (fun H' => Ex B2 H') Y → R J H2) → wi σ H1 R)
    (hs : ∀ i x B1 H1 H2, i < n → Ex B B1 → Ex B1 H1 → Y i H1 x H2 → ∃ B2, Gr B1 H1 B2 H2 ∧ ∃ σ2, (∀ R : L2.St → Hp → Prop, R σ2 H2 → g x (wipe σ vs) H2 R) ∧ wipe σ2 vs = wipe σ vs ∧ EvT tt σ2 B2 (f i) ∧ (f i = true → EvD K te σ2 B2 (k i))) :
    EvN K (tLc wi g tt te vs) σ B (givenD n f k) := fun B0 H0 e s Q q => hw B0 H0 e s _ fun J B2 H2 g2 w Dl hD =>
  lc_it w (fun i H' => ∃ B3, Gr B2 H2 B3 H' ∧ B3 Dl = none ∧ ∃ xs, H' Dl = some (.lst xs) ∧ DqAll K B3 xs (givenD i f k)) ⟨B2, (Gr.refl g2.s).own hD (none_of g2.s hD), none_of g2.s hD, [], upd_same, .nil⟩ (fun i H' _ ⟨B3, g3, _⟩ => g3.b.trans g3.s) (fun i x H3 H4 hi p y => by
    obtain ⟨B3, g3, n3, xs, p3, p4⟩ := p
    obtain ⟨B4, g4, σ2, hg, hwp, ht, he⟩ := hs i x B3 H3 H4 hi ((e.trans g2.b).trans g3.b) g3.s y
    have n4 : B4 Dl = none := g4.n _ n3 (by rw [p3]; exact fun z => by cases z)
    refine hg _ ⟨hwp, ht H4 g4.s _ fun H5 e5 => ?_⟩
    have g5 : Gr B2 H2 B4 H5 := (g3.trans g4).trans (.of g4.s e5)
    have p5 := e5 _ _ (g4.h _ _ p3)
    cases hf : f i with
    | false =>
      rw [if_neg Bool.false_ne_true]
      exact ⟨B4, g5, n4, xs, p5, by rw [givenD_no hf]; exact p4.up g4.b⟩
    | true =>
      rw [if_pos rfl]
      refine he hf B4 H5 (Ex.refl _) g5.s _ fun z B6 H6 g6 hz => ?_
      have n6 : B6 Dl = none := g6.n _ n4 (by rw [p5]; exact fun z => by cases z)
      have hl := p4.len
      have hg2 := givenD_len i f k
      exact ⟨xs, g6.h _ _ p5, sz_lt (by omega), B6, (g5.trans g6).own hD n6, n6, xs ++ [z], upd_same, by rw [givenD_yes hf]; exact (p4.up (g4.b.trans g6.b)).app (.cons hz .nil)⟩) (fun H' ⟨B3, g3, n3, xs, p3, p4⟩ => q Dl xs B3 H' (g2.trans g3) (none_of g2.h hD) n3 p3 p4)
/-- walks: a tuple, a list, a range -/
theorem wd_tup {ds : List PyData} (h : EvD K te σ B (.tuple ds)) : ∀ B1 H1, Ex B B1 → Ex B1 H1 → ∀ R : It → Hp → Prop, (∀ J B2 H2, Gr B1 H1 B2 H2 → Walk J ds.length (fun H' => Ex B2 H') (fun i H x H' => H' = H ∧ ∃ d, ds[i]? = some d ∧ Dq K B2 x d) → R J H2) → iTup K te σ H1 R := fun B1 H1 e s R q =>
  h B1 H1 e s _ fun v B2 H2 g hv => by
    cases hv with
    | @tup a xs _ hs hx =>
      refine ⟨a, rfl, ⟨xs, ex_t g.s hs⟩, q _ B2 H2 g ?_⟩
      rw [← hx.len]
      exact Walk.mono (walk_tup (K := K) (a := a) (xs := xs)) (fun H' e' => ex_t e' hs) fun i H x H' _ _ y => ⟨y.1, hx.at_ i x y.2⟩
theorem wd_lst {ds : List PyData} (h : EvD K te σ B (.list ds)) : ∀ B1 H1, Ex B B1 → Ex B1 H1 → ∀ R : It → Hp → Prop, (∀ J B2 H2, Gr B1 H1 B2 H2 → Walk J ds.length (fun H' => Ex B2 H') (fun i H x H' => H' = H ∧ ∃ d, ds[i]? = some d ∧ Dq K B2 x d) → R J H2) → iList K te σ H1 R := fun B1 H1 e s R q =>
  h B1 H1 e s _ fun v B2 H2 g hv => by
    cases hv with
    | @lst a xs _ hs hx =>
      refine ⟨a, rfl, ⟨xs, ex_l g.s hs⟩, q _ B2 H2 g ?_⟩
      rw [← hx.len]
      exact Walk.mono (walk_list (K := K) (a := a) (xs := xs)) (fun H' e' => ex_l e' hs) fun i H x H' _ _ y => ⟨y.1, hx.at_ i x y.2⟩
theorem wd_rng1 {n : Nat} (h : Ev te σ B (.int (n : Int))) (hn : n ≤ 100000) : ∀ B1 H1, Ex B B1 → Ex B1 H1 → ∀ R : It → Hp → Prop, (∀ J B2 H2, Gr B1 H1 B2 H2 → Walk J n (fun H' => Ex B2 H') (YFn fun i => .int (i : Int)) → R J H2) → iRng1 (tCons te tNil) σ H1 R := fun B1 H1 e s R q =>
  h H1 (e.trans s) _ fun H2 e2 => ⟨(n : Int), rfl, by omega, by omega, q _ B1 H2 (.of s e2) (by
    rw [show ((n : Int)).toNat = n from rfl]
    exact Walk.mono (walk_range (lo := 0) (n := n)) (fun _ _ => trivial) fun i H x H' _ _ y => ⟨y.1, y.2.trans (congrArg V.int (Int.zero_add _))⟩)⟩
theorem wd_rng2 {lo hi : Int} (h : Ev ta σ B (.int lo)) (k : Ev tb σ B (.int hi)) (h0 : 0 ≤ lo ∧ lo ≤ 100000 ∧ 0 ≤ hi ∧ hi ≤ 100000) : ∀ B1 H1, Ex B B1 → Ex B1 H1 → ∀ R : It → Hp → Prop, (∀ J B2 H2, Gr B1 H1 B2 H2 → Walk J (hi - lo).toNat (fun H' => Ex B2 H') (YFn fun i => .int (lo + (i : Int))) → R J H2) → iRng2 (tCons ta (tCons tb tNil)) σ H1 R := fun B1 H1 e s R q =>
  h H1 (e.trans s) _ fun H2 e2 => k H2 ((e.trans s).trans e2) _ fun H3 e3 => ⟨lo, hi, rfl, ⟨by omega, by omega, by omega, by omega⟩, q _ B1 H3 (.of s (e2.trans e3)) (Walk.mono (walk_range (lo := lo) (n := (hi - lo).toNat)) (fun _ _ => trivial) fun i H x H' _ _ y => y)⟩
/-! ### statements -/
theorem q_asgD {H : Hp} {tz : TS} {D : Ends} {i : Nat} (h : EvD K te σ B d) (s : Ex B H) (k : ∀ v B1 H1, Gr B H B1 H1 → Dq K B1 v d → tz D (σ.set i (some v)) H1) : tSeq (tAsg te (gName i)) tz D σ H := h B H (Ex.refl _) s _ fun v B1 H1 g hv => k v B1 H1 g hv
theorem s_asgD {H : Hp} {D : Ends} {i : Nat} (h : EvD K te σ B d) (s : Ex B H) (k : ∀ v B1 H1, Gr B H B1 H1 → Dq K B1 v d → D.nx (σ.set i (some v)) H1) : tAsg te (gName i) D σ H := h B H (Ex.refl _) s _ fun v B1 H1 g hv => k v B1 H1 g hv
theorem q_asgN {H : Hp} {tz : TS} {D : Ends} {i : Nat} (h : EvN K te σ B ds) (s : Ex B H) (k : ∀ p xs B1 H1, Gr B H B1 H1 → H p = none → B1 p = none → H1 p = some (.lst xs) → DqAll K B1 xs ds → tz D (σ.set i (some (.ref p))) H1) : tSeq (tAsg te (gName i)) tz D σ H := h B H (Ex.refl _) s _ fun p xs B1 H1 g h1 h2 h3 h4 => k p xs B1 H1 g h1 h2 h3 h4
theorem s_asgN {H : Hp} {D : Ends} {i : Nat} (h : EvN K te σ B ds) (s : Ex B H) (k : ∀ p xs B1 H1, Gr B H B1 H1 → H p = none → B1 p = none → H1 p = some (.lst xs) → DqAll K B1 xs ds → D.nx (σ.set i (some (.ref p))) H1) : tAsg te (gName i) D σ H := h B H (Ex.refl _) s _ fun p xs B1 H1 g h1 h2 h3 h4 => k p xs B1 H1 g h1 h2 h3 h4
/-- what a def of data promises -/
def RetD (K : PySem.W.Frag) (d : PyData) (B H : Hp) (Q : VK) : Prop := ∀ v B2 H2, Gr B H B2 H2 → Dq K B2 v d → Q v H2
def spFn (K : PySem.W.Frag) (R : List PyData → PyData → Prop) : Sp := fun vs H Q _ => ∃ (B : Hp) (ds : List PyData) (d : PyData), Ex B H ∧ DqAll K B vs ds ∧ R ds d ∧ RetD K d B H Q
theorem ed_call {R : List PyData → PyData → Prop} {E : XK} {t : TA} (h : EaD K t σ B ds) (hR : R ds d) : EvD K (tCall (spFn K R) [] E t) σ B d := fun B1 H1 e s Q q => h B1 H1 e s _ fun vs B2 H2 g hvs =>
  ⟨B2, ds, d, g.s, by rw [List.append_nil]; exact hvs, hR, fun v B3 H3 g3 hv => q v B3 H3 (g.trans g3) hv⟩
theorem s_retD {H : Hp} {D : Ends} (h : EvD K te σ B d) (s : Ex B H) (k : ∀ v B1 H1, Gr B H B1 H1 → Dq K B1 v d → D.rt v H1) : tRet te D σ H := h B H (Ex.refl _) s _ fun v B1 H1 g hv => k v B1 H1 g hv
theorem RetD.go {H H' B' : Hp} {Q : VK} (k : RetD K d B H Q) (g : Gr B H B' H') {v : V} {B2 H2 : Hp} (g2 : Gr B' H' B2 H2) (hv : Dq K B2 v d) : Q v H2 := k v B2 H2 (g.trans g2) hv
end
end My
namespace My
open PySem L2 Evl
abbrev sBegun : Stmt := s_law_begun
abbrev sBlended : Stmt := s_law_blended
abbrev sDraw : Stmt := s_law_draw
abbrev sPick : Stmt := s_law_pick

/-- the dict of the source of draws -/
def stK (g c : Addr) (left turn : Int) : List (Key × V) := [(.inr "great", .ref g), (.inr "cells", .ref c), (.inr "left", .int left), (.inr "turn", .int turn)]
/-- the source of draws: great numbers, cells, what is left, the turn -/
structure Src where
  gs : List Int
  cs : List Int
  left : Int
  turn : Int
/-- it stands at d, its lists at g and c -/
def StX (H : Hp) (d g c : Addr) (s : Src) : Prop := H d = some (.dK (stK g c s.left s.turn)) ∧ H g = some (.lst (s.gs.map V.int)) ∧ H c = some (.lst (s.cs.map V.int)) ∧ g ≠ c ∧ 0 ≤ s.left ∧ ∀ x ∈ s.gs, 0 ≤ x
/-- blended for one prime, for all three -/
def blP (cs : List Int) (t p : Int) : Int := cs.foldl (fun b z => (b * 69621 + z + t) % p) (39373 * t + p / 67)
def blN (cs : List Int) (t : Int) : Int := ((0 * 2147483647 + blP cs t 2147482801 ^ 5 % 2147482801) * 2147483647 + blP cs t 2147482763 ^ 5 % 2147482763) * 2147483647 + blP cs t 2147482739 ^ 5 % 2147482739
/-- the number to draw from, and the source behind it -/
def Src.fill (s : Src) : Src := if s.left = 0 then (match s.gs with
    | g :: r => { s with gs := r, left := g }
    | [] => { s with turn := s.turn + 1, left := blN s.cs (s.turn + 1) }) else s
def Src.val (s : Src) (n : Int) : Int := s.fill.left % n
def Src.next (s : Src) (n : Int) : Src := { s.fill with left := s.fill.left / n }
/-- all stands but d and g -/
def Kp (d g : Addr) (H H' : Hp) : Prop := ∀ b o, b ≠ d → b ≠ g → H b = some o → H' b = some o
/-- the built-ins that the draws use -/
structure DrB (mg : Str → Option Value) : Prop where
  abs : mg "abs" = none
  int : mg "int" = none
  len : mg "len" = none

def spBegun (K : PySem.W.Frag) : Sp := fun vs H Q _ => ∃ (a : Addr) (ns : List Int), vs = [.ref a] ∧ SqL K H a (ns.map V.int) ∧ ns.length ≤ 63 ∧
  ∀ (d g c : Addr) (H' : Hp) (s : Src), H d = none → H g = none → H c = none → StX H' d g c s → s.left = 0 → s.turn = 0 → s.cs = ns.map (fun z => if z < 0 then -z else z) → Ex H H' → Q (.ref d) H'

section
variable {P : Program} {w : World} {K : PySem.W.Frag} {mg : Str → Option Value} {base : Heap}
theorem scB : FnScope ["script", "great", "cell"] ["script"] (defScope sBegun) := ⟨rfl, rfl, rfl, by decide +kernel, rfl, by decide +kernel, by decide +kernel⟩
theorem ints_map {xs : List V} (h : ∀ x ∈ xs, ∃ i, x = V.int i) : ∃ l : List Int, xs = l.map V.int := by
  induction xs with
  | nil => exact ⟨[], rfl⟩
  | cons a r ih =>
    obtain ⟨i, rfl⟩ := h a (List.mem_cons_self ..)
    obtain ⟨l, e⟩ := ih fun x hx => h x (List.mem_cons_of_mem _ hx)
    exact ⟨i :: l, by rw [e]; rfl⟩
theorem given_ints {n : Nat} {f : Nat → Bool} {v : Nat → Int} : ∃ l : List Int, given n f (fun i => V.int (v i)) = l.map V.int := by
  refine ints_map fun x hx => ?_
  unfold given at hx
  obtain ⟨i, _, rfl⟩ := List.mem_map.mp hx
  exact ⟨_, rfl⟩
theorem given_all' {n : Nat} {v : Nat → V} : given n (fun _ => true) v = (List.range n).map v := by
  unfold given
  rw [List.filter_eq_self.mpr fun _ _ => rfl]
theorem ok_begun {f : Addr} {fd : FuncData} (F : Fun K "_law_begun" "_law_begun" sBegun f fd) (B : DrB mg) : FnOk P w K mg base CX0 1 f fd ["script"] (spBegun K) := by
  refine F.ok scB (fun vs H Q E h => ?_) (fun cdv A outer s H vs Q E hr h => ?_)
  · obtain ⟨a, ns, rfl, _⟩ := h
    rfl
  · obtain ⟨a, ns, rfl, hS, hl, k⟩ := h
    refine ⟨_, pss_cons (ps_setLc (i := 1) (own := [("cell", 2)]) (g := gName 2) rfl scB.nd rfl rfl (sw_true rfl rfl rfl (by decide +kernel)) (pi_list (pv 0)) (blkOk_by (N := ["script", "great", "cell"]) (sc := defScope sBegun) (by decide +kernel))
        (fun _ _ _ _ _ => pg_name (i := 2) scB.nd rfl (Or.inl rfl)) (fun _ _ _ _ _ => pts_one (pt_cmpR op_ge (pe_callB call_abs (by rfl) B.abs (by decide +kernel) (pa_cons (pv 2) pa_nil)) (pe_op op_pow pe_int pe_int) (nomark _)))
        (fun _ _ _ _ _ => pe_op op_sub (pe_callB call_abs (by rfl) B.abs (by decide +kernel) (pa_cons (pv 2) pa_nil)) (pe_op op_pow pe_int pe_int)))
      (pss_one (ps_ret (pe_disp (pps_cons pe_str (pv 1) (pps_cons pe_str (pe_lc (own := [("cell", 2)]) (g := gName 2) rfl scB.nd (pi_list (pv 0)) (blkOk_by (N := ["script", "great", "cell"]) (sc := defScope sBegun) (by decide +kernel))
        (fun _ _ _ _ _ => pg_name (i := 2) scB.nd rfl (Or.inl rfl)) (fun _ _ _ _ _ => pts_nil) (fun _ _ _ _ _ => pe_callB call_abs (by rfl) B.abs (by decide +kernel) (pa_cons (pv 2) pa_nil)))
        (pps_cons pe_str pe_int (pps_cons pe_str pe_int pps_nil)))) (by rfl) (by rfl) (fun z => by cases z) (by decide)))), ?_⟩
    let z : Nat → Int := fun i => (ns[i]?).getD 0
    let m : Nat → Int := fun i => if z i < 0 then -z i else z i
    have g0 : ∀ (i : Nat) (x : V), (ns.map V.int)[i]? = some x → x = V.int (z i) := fun i x hx => by
      rw [List.getElem?_map] at hx
      cases e : ns[i]? with
      | none => rw [e] at hx; cases hx
      | some y =>
        rw [e] at hx
        show x = V.int ((ns[i]?).getD 0)
        rw [e]
        exact (Option.some.inj hx).symm
    have eAbs : ∀ (z : Int) (H1 : Hp) (σ : L2.St), σ[2]? = some (some (V.int z)) → Ev (tCB (fun xs H Q => ∃ i, xs = [V.int i] ∧ Q (.int (if i < 0 then -i else i)) H) (tCons (tVar 2) tNil)) σ H1 (.int (if z < 0 then -z else z)) :=
      fun z H1 σ hz H2 e Q q => ⟨_, hz, z, rfl, q H2 (Ex.refl H2)⟩
    have ePow : ∀ (H1 : Hp) (σ : L2.St), Ev (tOp (rI CPow fun i j => .int (i ^ j.toNat)) (tC (.int 10)) (tC (.int 18))) σ H1 (.int ((10 : Int) ^ (18 : Int).toNat)) :=
      fun H1 σ => ev_op ev_c ev_c (rv_I ⟨by decide, by decide, by decide⟩)
    have hlen : (ns.map V.int).length ≤ 40000 := by rw [List.length_map]; omega
    have hw : ∀ (σ : L2.St) (x : V), wipe ((wipe [some (V.ref a), none, none] [2]).set 2 (some x)) [2] = wipe [some (V.ref a), none, none] [2] := fun _ _ => rfl
    refine q_asgL (el_lcL (f := fun i => decide ((10 : Int) ^ (18 : Int).toNat ≤ m i)) (v := fun i => V.int (m i - (10 : Int) ^ (18 : Int).toNat)) (ev_var rfl) hS hlen (fun _ => rfl) (fun i x H1 e1 hx => ?_) (fun i x H1 e1 hx _ => ?_)) (fun g H1 hg e1 h1 => ?_)
    · have e := g0 i x hx
      subst e
      exact et_test (ev_op (eAbs _ _ _ rfl) (ePow _ _) rv_I0)
    · have e := g0 i x hx
      subst e
      exact ev_op (eAbs _ _ _ rfl) (ePow _ _) rv_I0
    · intro d hd
      refine ⟨_, rfl, ?_⟩
      have e2 : Ex H1 (upd H1 d (.dK [])) := Ex.new hd
      dsimp only [tPairs, tC]
      refine (el_lcL (K := K) (t := tYes) (j := 2) (vs := [2]) (σ := [some (V.ref a), some (V.ref g), none]) (f := fun i => true) (v := fun i => V.int (m i)) (ev_var (i := 0) rfl) (ex_l (e1.trans e2) hS) hlen (fun _ => rfl) (fun i x H1 e1 hx => fun H2 _ Q q => q H2 (Ex.refl H2)) (fun i x H1 e1 hx _ => ?_)) _ (Ex.refl _) _ (fun c H2 hc e3 h2 => ?_)
      · have e := g0 i x hx
        subst e
        exact eAbs _ _ _ rfl
      · refine ⟨e3 d _ upd_same, stK g c 0 0, rfl, by show 4 ≤ 15; decide, ?_⟩
        have eg : given (ns.map V.int).length (fun i => decide ((10 : Int) ^ (18 : Int).toNat ≤ m i)) (fun i => V.int (m i - (10 : Int) ^ (18 : Int).toNat)) = (((List.range (ns.map V.int).length).filter fun i => decide ((10 : Int) ^ (18 : Int).toNat ≤ m i)).map fun i => m i - (10 : Int) ^ (18 : Int).toNat).map V.int := by
          unfold given
          rw [List.map_map]
          rfl
        have ec : given (ns.map V.int).length (fun _ => true) (fun i => V.int (m i)) = (ns.map fun z => if z < 0 then -z else z).map V.int := by
          rw [given_all', List.length_map, List.map_map]
          refine List.ext_getElem (by simp) fun i h1 h2 => ?_
          have hi : i < ns.length := by simpa using h1
          simp [m, z, hi]
        have ndg : d ≠ g := (ne_of_none h1 hd).symm
        have ndc : d ≠ c := ne_of_none upd_same hc
        have ngc : g ≠ c := ne_of_none (e2 g _ h1) hc
        refine k d g c _ ⟨_, ns.map fun z => if z < 0 then -z else z, 0, 0⟩ (fresh_back e1 hd) hg (fresh_back (e1.trans e2) hc) ⟨upd_same, Eq.trans (upd_ne ndg.symm) ((e3 g _ (e2 g _ h1)).trans (by rw [eg])), Eq.trans (upd_ne ndc.symm) (h2.trans (by rw [ec])), ngc, Int.le_refl _, fun x hx => ?_⟩ rfl rfl rfl ?_
        · obtain ⟨i, hi, rfl⟩ := List.mem_map.mp hx
          have z := of_decide_eq_true (List.mem_filter.mp hi).2
          exact Int.sub_nonneg_of_le z
        · exact Ex.mut ((e1.trans e2).trans e3) (fresh_back e1 hd)

theorem ns12 : ¬ ("great" : Str) = "cells" := by decide +kernel
theorem ns13 : ¬ ("great" : Str) = "left" := by decide +kernel
theorem ns14 : ¬ ("great" : Str) = "turn" := by decide +kernel
theorem ns21 : ¬ ("cells" : Str) = "great" := by decide +kernel
theorem ns23 : ¬ ("cells" : Str) = "left" := by decide +kernel
theorem ns24 : ¬ ("cells" : Str) = "turn" := by decide +kernel
theorem ns31 : ¬ ("left" : Str) = "great" := by decide +kernel
theorem ns32 : ¬ ("left" : Str) = "cells" := by decide +kernel
theorem ns34 : ¬ ("left" : Str) = "turn" := by decide +kernel
theorem ns41 : ¬ ("turn" : Str) = "great" := by decide +kernel
theorem ns42 : ¬ ("turn" : Str) = "cells" := by decide +kernel
theorem ns43 : ¬ ("turn" : Str) = "left" := by decide +kernel
theorem nk12 : ¬ (Sum.inr ("great" : Str) : Key) = Sum.inr ("cells" : Str) := fun e => ns12 (Sum.inr.inj e)
theorem nk13 : ¬ (Sum.inr ("great" : Str) : Key) = Sum.inr ("left" : Str) := fun e => ns13 (Sum.inr.inj e)
theorem nk14 : ¬ (Sum.inr ("great" : Str) : Key) = Sum.inr ("turn" : Str) := fun e => ns14 (Sum.inr.inj e)
theorem nk21 : ¬ (Sum.inr ("cells" : Str) : Key) = Sum.inr ("great" : Str) := fun e => ns21 (Sum.inr.inj e)
theorem nk23 : ¬ (Sum.inr ("cells" : Str) : Key) = Sum.inr ("left" : Str) := fun e => ns23 (Sum.inr.inj e)
theorem nk24 : ¬ (Sum.inr ("cells" : Str) : Key) = Sum.inr ("turn" : Str) := fun e => ns24 (Sum.inr.inj e)
theorem nk31 : ¬ (Sum.inr ("left" : Str) : Key) = Sum.inr ("great" : Str) := fun e => ns31 (Sum.inr.inj e)
theorem nk32 : ¬ (Sum.inr ("left" : Str) : Key) = Sum.inr ("cells" : Str) := fun e => ns32 (Sum.inr.inj e)
theorem nk34 : ¬ (Sum.inr ("left" : Str) : Key) = Sum.inr ("turn" : Str) := fun e => ns34 (Sum.inr.inj e)
theorem nk41 : ¬ (Sum.inr ("turn" : Str) : Key) = Sum.inr ("great" : Str) := fun e => ns41 (Sum.inr.inj e)
theorem nk42 : ¬ (Sum.inr ("turn" : Str) : Key) = Sum.inr ("cells" : Str) := fun e => ns42 (Sum.inr.inj e)
theorem nk43 : ¬ (Sum.inr ("turn" : Str) : Key) = Sum.inr ("left" : Str) := fun e => ns43 (Sum.inr.inj e)
theorem st_great {H : Hp} {d g c : Addr} {l t : Int} (e : H d = some (.dK (stK g c l t))) : DGet H d (.str "great") (some (.ref g)) := by
  have q := DGet.k (k := Sum.inr "great") e
  rw [show valV (stK g c l t) (Sum.inr "great") = some (.ref g) from valV_pos rfl] at q
  exact q
theorem st_cells {H : Hp} {d g c : Addr} {l t : Int} (e : H d = some (.dK (stK g c l t))) : DGet H d (.str "cells") (some (.ref c)) := by
  have q := DGet.k (k := Sum.inr "cells") e
  rw [show valV (stK g c l t) (Sum.inr "cells") = some (.ref c) from (valV_neg nk12).trans (valV_pos rfl)] at q
  exact q
theorem st_left {H : Hp} {d g c : Addr} {l t : Int} (e : H d = some (.dK (stK g c l t))) : DGet H d (.str "left") (some (.int l)) := by
  have q := DGet.k (k := Sum.inr "left") e
  rw [show valV (stK g c l t) (Sum.inr "left") = some (.int l) from (valV_neg nk13).trans ((valV_neg nk23).trans (valV_pos rfl))] at q
  exact q
theorem st_turn {H : Hp} {d g c : Addr} {l t : Int} (e : H d = some (.dK (stK g c l t))) : DGet H d (.str "turn") (some (.int t)) := by
  have q := DGet.k (k := Sum.inr "turn") e
  rw [show valV (stK g c l t) (Sum.inr "turn") = some (.int t) from (valV_neg nk14).trans ((valV_neg nk24).trans ((valV_neg nk34).trans (valV_pos rfl)))] at q
  exact q
theorem st_putL {H : Hp} {d g c : Addr} {l t v : Int} (e : H d = some (.dK (stK g c l t))) : DPut H d (.str "left") (.int v) (upd H d (.dK (stK g c v t))) := by
  have q := DPut.k (k := Sum.inr "left") (v := V.int v) e (by show 4 < sizeLine; decide)
  rw [show putK (stK g c l t) (Sum.inr "left") (V.int v) = stK g c v t by unfold putK stK; simp [ns13, ns23, ns43]] at q
  exact q
theorem st_putT {H : Hp} {d g c : Addr} {l t v : Int} (e : H d = some (.dK (stK g c l t))) : DPut H d (.str "turn") (.int v) (upd H d (.dK (stK g c l v))) := by
  have q := DPut.k (k := Sum.inr "turn") (v := V.int v) e (by show 4 < sizeLine; decide)
  rw [show putK (stK g c l t) (Sum.inr "turn") (V.int v) = stK g c l v by unfold putK stK; simp [ns14, ns24, ns34]] at q
  exact q
theorem blP_small (cs : List Int) {turn p : Int} (t0 : 0 ≤ turn) (t1 : turn < 2 ^ 900) (p0 : 0 < p) (p1 : p < 2147483648) : (blP cs (turn + 1) p).natAbs < 2 ^ 1000 := by
  have key : ∀ (l : List Int) (b : Int), 0 ≤ b → b < 2 ^ 1000 → 0 ≤ l.foldl (fun b z => (b * 69621 + z + (turn + 1)) % p) b ∧ l.foldl (fun b z => (b * 69621 + z + (turn + 1)) % p) b < 2 ^ 1000 := by
    intro l
    induction l with
    | nil => exact fun b h1 h2 => ⟨h1, h2⟩
    | cons z r ih =>
      intro b _ _
      have m0 := Int.emod_nonneg (b * 69621 + z + (turn + 1)) (show p ≠ 0 by omega)
      have m1 := Int.emod_lt_of_pos (b * 69621 + z + (turn + 1)) p0
      refine ih _ m0 ?_
      show (b * 69621 + z + (turn + 1)) % p < 2 ^ 1000
      omega
  have d0 : 0 ≤ p / 67 := Int.ediv_nonneg (by omega) (by decide)
  have d1 : p / 67 ≤ p := Int.ediv_le_self _ (by omega)
  obtain ⟨k1, k2⟩ := key cs (39373 * (turn + 1) + p / 67) (by omega) (by omega)
  unfold blP
  omega
theorem op_powW {X : Cx} : OpR X (binaryOp .Pow) (rI (fun i j => 0 ≤ j ∧ j ≤ 1000 ∧ i.natAbs < 2 ^ 1000) fun i j => .int (i ^ j.toNat)) := opI fun i j t u s Q E hc q => by
  refine PyProof.Rows.pow_int hc.1 ?_ q
  have hb := PyProof.Rows.intBits_le hc.2.2
  have h1 : (Builtin.Int.intBits i : Int) * j ≤ 1000 * j := Int.mul_le_mul_of_nonneg_right (by omega) hc.1
  have h2 := hc.2.1
  omega
def spBlended : Sp := fun vs H Q _ => ∃ (d g c : Addr) (s : Src), vs = [.ref d] ∧ StX H d g c s ∧ 0 ≤ s.turn ∧ s.turn < 2 ^ 900 ∧
  ∀ (H' : Hp), StX H' d g c { s with turn := s.turn + 1 } → Kp d g H H' → Q (.int (blN s.cs (s.turn + 1))) H'
theorem scBl : FnScope ["state", "turn", "found", "prime", "blend", "cell"] ["state"] (defScope sBlended) := ⟨rfl, rfl, rfl, by decide +kernel, rfl, by decide +kernel, by decide +kernel⟩
theorem ok_blended {f : Addr} {fd : FuncData} (F : Fun K "_law_blended" "_law_blended" sBlended f fd) (B : DrB mg) : FnOk P w K mg base CX0 1 f fd ["state"] spBlended := by
  refine F.ok scBl (fun vs H Q E h => ?_) (fun cdv A outer s H vs Q E hr h => ?_)
  · obtain ⟨d, g, c, s0, rfl, _⟩ := h
    rfl
  · obtain ⟨d, g, c, ⟨gs, cs, left, turn⟩, rfl, hst, t0, t1, k⟩ := h
    have hu := hu_of hr
    refine ⟨_, pss_cons (ps_par (i := 1) (j := 2) rfl scBl.nd rfl rfl (by decide) rfl rfl (pa_cons (pe_op op_add (pe_dget hu (pv 0) pe_str (fun _ _ => rfl)) pe_int) (pa_cons pe_int pa_nil)) (by rfl))
      (pss_cons (ps_dput hu (pv 0) pe_str (pv 1) rfl)
      (pss_cons (ps_for PassesOwn.never rfl (pi_list (pe_lst (pa_cons pe_int (pa_cons pe_int (pa_cons pe_int pa_nil))))) (pg_name (i := 3) scBl.nd rfl (Or.inl rfl))
        (pss_cons (ps_set (i := 4) scBl.nd rfl (Or.inl rfl) (pe_op op_add (pe_op op_mul pe_int (pv 1)) (pe_op op_fdiv (pv 3) pe_int)))
        (pss_cons (ps_for PassesOwn.never rfl (pi_list (pe_dget hu (pv 0) pe_str (fun _ _ => rfl))) (pg_name (i := 5) scBl.nd rfl (Or.inl rfl))
          (pss_one (ps_set (i := 4) scBl.nd rfl (Or.inl rfl) (pe_op op_mod (pe_callTy call_int1 (by rfl) B.int (by decide +kernel) (pa_cons (pe_op op_add (pe_op op_add (pe_op op_mul (pv 4) pe_int) (pv 5)) (pv 1)) pa_nil)) (pv 3)))))
        (pss_one (ps_set (i := 2) scBl.nd rfl (Or.inl rfl) (pe_op op_add (pe_op op_mul (pv 2) pe_int) (pe_op op_mod (pe_callTy call_int1 (by rfl) B.int (by decide +kernel) (pa_cons (pe_op op_powW (pv 4) pe_int) pa_nil)) (pv 3))))))))
      (pss_one (ps_ret (pv 2))))), ?_⟩
    obtain ⟨hd, hg, hc, ngc, l0, gnn⟩ := hst
    have ndg : d ≠ g := ne_of hd hg (by intro q; cases q)
    have ndc : d ≠ c := ne_of hd hc (by intro q; cases q)
    -- turn, found = (state['turn'] + 1, 0); state['turn'] = turn
    refine ⟨_, rfl, d, _, rfl, st_turn hd, _, _, rfl, rfl, _, _, rfl, ?_⟩
    refine ⟨_, rfl, _, rfl, d, _, rfl, st_putT hd, ?_⟩
    refine ⟨by show 3 ≤ sizeLine; decide, fun l hl => ?_⟩
    have hld : l ≠ d := fun e => by rw [e, upd_same] at hl; cases hl
    have hl0 : H l = none := by rw [upd_ne hld] at hl; exact hl
    have hlg : l ≠ g := fun e => by rw [e, hg] at hl0; cases hl0
    have hlc : l ≠ c := fun e => by rw [e, hc] at hl0; cases hl0
    have hdl := Ne.symm hld
    let H1 : Hp := upd (upd H d (.dK (stK g c left (turn + 1)))) l (.lst [V.int 2147482801, V.int 2147482763, V.int 2147482739])
    have hd1 : H1 d = some (.dK (stK g c left (turn + 1))) := Eq.trans (upd_ne hdl) upd_same
    have hg1 : H1 g = some (.lst (gs.map V.int)) := Eq.trans (upd_ne hlg.symm) (Eq.trans (upd_ne ndg.symm) hg)
    have hc1 : H1 c = some (.lst (cs.map V.int)) := Eq.trans (upd_ne hlc.symm) (Eq.trans (upd_ne ndc.symm) hc)
    let ps : List Int := [2147482801, 2147482763, 2147482739]
    let fo : Nat → Int := fun i => (ps.take i).foldl (fun f p => f * 2147483647 + blP cs (turn + 1) p ^ 5 % p) 0
    refine ⟨l, rfl, ⟨_, SqL.of upd_same⟩, for_list (K := K) (a := l) (xs := [V.int 2147482801, V.int 2147482763, V.int 2147482739])
      (fun i σ H' => H' = H1 ∧ ∃ (v3 v4 v5 : Option V), σ = [some (.ref d), some (.int (turn + 1)), some (.int (fo i)), v3, v4, v5]) ⟨rfl, none, none, none, rfl⟩ (fun i σ H' _ ⟨e, _⟩ => by rw [e]; exact SqL.of upd_same) ?_ ?_⟩
    · rintro i x σ H' hi ⟨rfl, v3, v4, v5, rfl⟩
      obtain ⟨p, rfl, hp, hfo⟩ : ∃ p : Int, x = V.int p ∧ (0 < p ∧ p < 2147483648) ∧ fo (i + 1) = fo i * 2147483647 + blP cs (turn + 1) p ^ 5 % p := by
        match i, hi with
        | 0, h => exact ⟨_, (Option.some.inj h).symm, by decide, rfl⟩
        | 1, h => exact ⟨_, (Option.some.inj h).symm, by decide, rfl⟩
        | 2, h => exact ⟨_, (Option.some.inj h).symm, by decide, rfl⟩
        | i + 3, h => simp at h
      obtain ⟨hp0, hp1⟩ := hp
      -- blend = 39373 * turn + prime // 67
      refine ⟨_, rfl, _, _, rfl, rfl, Or.inl ⟨by decide, by decide⟩, _, rfl, _, _, rfl, rfl, ⟨by decide, by decide⟩, _, _, rfl, rfl, ?_⟩
      -- for cell in state['cells']
      let bl : Nat → Int := fun j => (cs.take j).foldl (fun b z => (b * 69621 + z + (turn + 1)) % p) (39373 * (turn + 1) + p / 67)
      refine ⟨_, rfl, d, _, rfl, st_cells hd1, c, rfl, ⟨_, SqL.of hc1⟩, for_list (K := K) (a := c) (xs := cs.map V.int)
        (fun j σ H' => H' = H1 ∧ ∃ (v5 : Option V), σ = [some (.ref d), some (.int (turn + 1)), some (.int (fo i)), some (.int p), some (.int (bl j)), v5]) ⟨rfl, v5, rfl⟩ (fun i σ H' _ ⟨e, _⟩ => by rw [e]; exact SqL.of hc1) ?_ ?_⟩
      · rintro j y σ H' hj ⟨rfl, v5, rfl⟩
        obtain ⟨z, rfl, hz⟩ : ∃ z, y = V.int z ∧ bl (j + 1) = (bl j * 69621 + z + (turn + 1)) % p := by
          rw [List.getElem?_map] at hj
          obtain ⟨z, hz, rfl⟩ := Option.map_eq_some_iff.mp hj
          refine ⟨z, rfl, ?_⟩
          show (cs.take (j + 1)).foldl _ _ = _
          rw [List.take_add_one, hz, List.foldl_append]
          rfl
        -- blend = int(blend * 69621 + cell + turn) % prime
        refine ⟨_, rfl, _, _, rfl, rfl, Or.inr ⟨by decide, by decide⟩, _, rfl, _, _, rfl, rfl, _, rfl, _, _, rfl, rfl, Or.inl ⟨_, rfl, _, rfl, _, _, rfl, rfl, hp0, ?_⟩⟩
        refine ⟨rfl, some (V.int z), ?_⟩
        rw [hz]
        rfl
      · rintro σ H' ⟨rfl, v5, rfl⟩
        -- found = found * 2147483647 + int(blend ** 5) % prime
        have hb : bl (cs.map V.int).length = blP cs (turn + 1) p := by
          show (cs.take (cs.map V.int).length).foldl _ _ = _
          rw [List.length_map, List.take_length]
          rfl
        refine ⟨_, rfl, _, _, rfl, rfl, Or.inr ⟨by decide, by decide⟩, _, rfl, _, _, rfl, rfl, ⟨by decide, by decide, ?_⟩, Or.inl ⟨_, rfl, _, rfl, _, _, rfl, rfl, hp0, _, _, rfl, rfl, ?_⟩⟩
        · rw [hb]
          exact blP_small cs t0 t1 hp0 hp1
        · refine ⟨rfl, some (.int p), some (.int (bl (cs.map V.int).length)), v5, ?_⟩
          rw [hfo, ← hb]
          rfl
    · rintro σ H' ⟨rfl, v3, v4, v5, rfl⟩
      refine ⟨_, rfl, k H1 ⟨hd1, hg1, hc1, ngc, l0, gnn⟩ fun b o nb ng hb => ?_⟩
      have hbl : b ≠ l := ne_of_none hb hl0
      exact Eq.trans (upd_ne hbl) (Eq.trans (upd_ne nb) hb)

theorem dp_ints {H : Hp} : ∀ gs : List Int, DpAll K H (gs.map V.int) (gs.map PyData.int)
  | [] => .nil
  | a :: r => .cons (.int a) (dp_ints r)
theorem depth_ints : ∀ gs : List Int, PyData.depthAll (gs.map PyData.int) = 0
  | [] => rfl
  | a :: r => by
    show max 0 (PyData.depthAll (r.map PyData.int)) = 0
    rw [depth_ints r]
    rfl
theorem canLay_ints : ∀ gs : List Int, PyData.canLayAll0 (gs.map PyData.int) = true
  | [] => by simp [PyData.canLayAll0]
  | a :: r => by
    show PyData.canLayAll0 (PyData.int a :: r.map PyData.int) = true
    unfold PyData.canLayAll0
    rw [canLay_ints r]
    simp [PyData.canLay0]
theorem shaped_ints (gs : List Int) : SeqAt.shaped (.list (gs.map PyData.int)) = true := by
  have h1 : PyData.canLay0 (.list (gs.map PyData.int)) = true := by unfold PyData.canLay0; exact canLay_ints gs
  have h2 : PyData.depth (.list (gs.map PyData.int)) = 1 := by
    show PyData.depthAll (gs.map PyData.int) + 1 = 1
    rw [depth_ints]
  unfold SeqAt.shaped
  rw [h1, h2]
  rfl
theorem eqv_ints_nil (gs : List Int) : PyData.eqv (.list (gs.map PyData.int)) (.list []) = gs.isEmpty := by
  cases gs with
  | nil => simp [PyData.eqv, PyData.eqvAll]
  | cons a r => simp [PyData.eqv, PyData.eqvAll]
theorem fill_left {s : Src} (h : 0 ≤ s.left) (hg : ∀ x ∈ s.gs, 0 ≤ x) : 0 ≤ s.fill.left ∧ ∀ x ∈ s.fill.gs, 0 ≤ x := by
  unfold Src.fill
  split
  · cases e : s.gs with
    | nil =>
      refine ⟨?_, fun x hx => ?_⟩
      · show 0 ≤ blN s.cs (s.turn + 1)
        have q : ∀ x p : Int, 0 < p → 0 ≤ x % p := fun x p hp => Int.emod_nonneg x (by omega)
        have q1 := q (blP s.cs (s.turn + 1) 2147482801 ^ 5) 2147482801 (by decide)
        have q2 := q (blP s.cs (s.turn + 1) 2147482763 ^ 5) 2147482763 (by decide)
        have q3 := q (blP s.cs (s.turn + 1) 2147482739 ^ 5) 2147482739 (by decide)
        unfold blN
        omega
      · have hx' : x ∈ ([] : List Int) := hx
        cases hx'
    | cons g r =>
      rw [e] at hg
      exact ⟨hg g List.mem_cons_self, fun x hx => hg x (List.mem_cons_of_mem _ hx)⟩
  · exact ⟨h, hg⟩
def spDraw : Sp := fun vs H Q _ => ∃ (d g c : Addr) (s : Src) (n : Int), vs = [.ref d, .int n] ∧ StX H d g c s ∧ 0 ≤ s.turn ∧ s.turn < 2 ^ 900 ∧ 0 < n ∧ n < 1073741824 ∧
  ∀ (H' : Hp), StX H' d g c (s.next n) → Kp d g H H' → Q (.int (s.val n)) H'
theorem scDr : FnScope ["state", "size_here", "found"] ["state", "size_here"] (defScope sDraw) := ⟨rfl, rfl, rfl, by decide +kernel, rfl, by decide +kernel, by decide +kernel⟩
theorem ok_draw {f fB : Addr} {fd fdB : FuncData} (F : Fun K "_law_draw" "_law_draw" sDraw f fd) (B : DrB mg) (FB : Fun K "_law_blended" "_law_blended" sBlended fB fdB) (mgB : mg "_law_blended" = some (.ref fB)) :
    FnOk P w K mg base CX0 2 f fd ["state", "size_here"] spDraw := by
  have GB : FnOk P w K mg base CX0 1 fB fdB ["state"] spBlended := ok_blended FB B
  have bB : Binds K fdB ["state"] [] := FB.binds (ps := ["state"]) fun _ _ _ _ _ _ us hl => match us, hl with | [_], _ => rfl
  refine F.ok scDr (fun vs H Q E h => ?_) (fun cdv A outer s H vs Q E hr h => ?_)
  · obtain ⟨d, g, c, s0, n, rfl, _⟩ := h
    rfl
  · obtain ⟨d, g, c, s0, n, rfl, hst, hT0, hT1, hn0, hn1, k⟩ := h
    have hu := hu_of hr
    refine ⟨_, pss_cut (ps_if (pt_cmpR op_eq (pe_dget hu (pv 0) pe_str (fun _ _ => rfl)) pe_int (nomark _))
        (pss_one (ps_dput hu (pv 0) pe_str (pe_ifExp (pt_cmpR (op_neD hr.units) (pe_dget hu (pv 0) pe_str (fun _ _ => rfl)) (pe_lst pa_nil) (nomark _))
          (pe_bm PySem.F.plainAttrs_list PySem.F.slot_list_pop PySem.F.type_list_pop mt_popAt (pe_dget hu (pv 0) pe_str (fun _ _ => rfl)) (pa_cons pe_int pa_nil))
          (pe_call GB hr rfl mgB FB.kp bB .nil pass0 (pa_cons (pv 0) pa_nil))) rfl)) pss_nil)
      (pss_cons (ps_set (i := 2) scDr.nd rfl (Or.inl rfl) (pe_op op_mod (pe_callTy call_int1 (by rfl) B.int (by decide +kernel) (pa_cons (pe_dget hu (pv 0) pe_str (fun _ _ => rfl)) pa_nil)) (pv 1)))
      (pss_cons (ps_dput hu (pv 0) pe_str (pe_op op_fdiv (pe_dget hu (pv 0) pe_str (fun _ _ => rfl)) (pv 1)) rfl)
      (pss_one (ps_ret (pv 2))))), ?_⟩
    obtain ⟨gs, cs, left, turn⟩ := s0
    obtain ⟨hd, hg, hc, ngc, l0, gnn⟩ := id hst
    have fl := fill_left l0 gnn
    have ndg : d ≠ g := ne_of hd hg (by intro q; cases q)
    have ndc : d ≠ c := ne_of hd hc (by intro q; cases q)
    refine ⟨fun σ H' => σ = [some (.ref d), some (.int n), none] ∧ Kp d g H H' ∧ StX H' d g c (Src.fill ⟨gs, cs, left, turn⟩), ?_, ?_⟩
    · refine ⟨_, rfl, d, _, rfl, st_left hd, rfl, _, rfl, ?_⟩
      refine ite2 (fun hz => ?_) (fun hz => ?_)
      · have hz : left = 0 := by
          have z := of_decide_eq_true hz
          exact V.int.inj z
        subst hz
        refine ⟨_, rfl, d, _, rfl, st_great hd, Nat.zero_le _, fun l hl => ?_⟩
        have hlg : l ≠ g := fun e => by rw [e, hg] at hl; cases hl
        have hld : l ≠ d := fun e => by rw [e, hd] at hl; cases hl
        have hlc : l ≠ c := fun e => by rw [e, hc] at hl; cases hl
        have hd1 : upd H l (.lst []) d = some (.dK (stK g c 0 turn)) := Eq.trans (upd_ne hld.symm) hd
        have hg1 : upd H l (.lst []) g = some (.lst (gs.map V.int)) := Eq.trans (upd_ne hlg.symm) hg
        have hc1 : upd H l (.lst []) c = some (.lst (cs.map V.int)) := Eq.trans (upd_ne hlc.symm) hc
        have kp1 : ∀ b o, H b = some o → upd H l (.lst []) b = some o := fun b o hb => Eq.trans (upd_ne (ne_of_none hb hl)) hb
        refine ⟨_, _, Dp.lst (SqL.of hg1) (dp_ints gs), Dp.lst (SqL.of upd_same) .nil, shaped_ints gs, shaped_ints [], _, rfl, ?_⟩
        rw [eqv_ints_nil]
        cases gs with
        | nil =>
          refine iteF ?_
          refine ⟨_, rfl, d, g, c, ⟨[], cs, 0, turn⟩, rfl, ⟨hd1, hg1, hc1, ngc, Int.le_refl _, gnn⟩, hT0, hT1, fun H2 st2 k2 => ?_⟩
          obtain ⟨hd2, hg2, hc2, _, _, _⟩ := st2
          refine ⟨_, rfl, d, _, rfl, st_putL hd2, rfl, fun b o nb ng hb => ?_, upd_same, Eq.trans (upd_ne ndg.symm) hg2, Eq.trans (upd_ne ndc.symm) hc2, ngc, fl.1, fl.2⟩
          exact Eq.trans (upd_ne nb) (k2 b o nb ng (kp1 b o hb))
        | cons z r =>
          refine iteT ?_
          refine ⟨_, rfl, d, _, rfl, st_great hd1, Or.inl ⟨rfl, _, SqL.of hg1⟩, g, _, 0, 0, V.int z, rfl, rfl, hg1, by decide, by decide, ?_, rfl, ?_⟩
          · show seqIndex? 0 (V.int z :: r.map V.int).length = some 0
            rw [List.length_cons]
            simp [seqIndex?]
          · refine ⟨_, rfl, d, _, rfl, st_putL (Eq.trans (upd_ne ndg) hd1), rfl, fun b o nb ng hb => ?_, upd_same, Eq.trans (upd_ne ndg.symm) upd_same, Eq.trans (upd_ne ndc.symm) (Eq.trans (upd_ne ngc.symm) hc1), ngc, fl.1, fl.2⟩
            exact Eq.trans (upd_ne nb) (Eq.trans (upd_ne ng) (kp1 b o hb))
      · have hz : ¬ left = 0 := fun e => by
          rw [e] at hz
          exact hz (decide_eq_true rfl)
        refine ⟨rfl, fun b o _ _ h => h, ?_⟩
        have e : Src.fill ⟨gs, cs, left, turn⟩ = ⟨gs, cs, left, turn⟩ := if_neg hz
        rw [e]
        exact hst
    · rintro σ H1 ⟨rfl, k1, st1⟩
      have nx : (⟨gs, cs, left, turn⟩ : Src).next n = { (⟨gs, cs, left, turn⟩ : Src).fill with left := (⟨gs, cs, left, turn⟩ : Src).fill.left / n } := rfl
      have vl : (⟨gs, cs, left, turn⟩ : Src).val n = (⟨gs, cs, left, turn⟩ : Src).fill.left % n := rfl
      generalize (⟨gs, cs, left, turn⟩ : Src).fill = s1 at st1 nx vl fl
      obtain ⟨gs1, cs1, left1, turn1⟩ := s1
      obtain ⟨hd1, hg1, hc1, _, l1, gn1⟩ := st1
      -- found = int(state['left']) % size_here; state['left'] = state['left'] // size_here; return found
      refine ⟨_, rfl, d, _, rfl, st_left hd1, Or.inl ⟨_, rfl, _, rfl, _, _, rfl, rfl, hn0, ?_⟩⟩
      refine ⟨_, rfl, d, _, rfl, st_left hd1, _, rfl, _, _, rfl, rfl, ⟨hn0, hn1⟩, _, rfl, d, _, rfl, st_putL hd1, ?_⟩
      refine ⟨_, rfl, ?_⟩
      have := k (upd H1 d (.dK (stK g c (left1 / n) turn1))) (by
        rw [nx]
        exact ⟨upd_same, Eq.trans (upd_ne ndg.symm) hg1, Eq.trans (upd_ne ndc.symm) hc1, ngc, Int.ediv_nonneg l1 (by omega), gn1⟩) (fun b o nb ng hb => Eq.trans (upd_ne nb) (k1 b o nb ng hb))
      rw [vl] at this
      exact this
theorem val_in (s : Src) {n : Int} (h : 0 < n) : 0 ≤ s.val n ∧ s.val n < n := ⟨Int.emod_nonneg _ (by omega), Int.emod_lt_of_pos _ h⟩
def spPick : Sp := fun vs H Q _ => ∃ (d g c a : Addr) (s : Src) (xs : List V), vs = [.ref d, .ref a] ∧ StX H d g c s ∧ 0 ≤ s.turn ∧ s.turn < 2 ^ 900 ∧ H a = some (.lst xs) ∧ a ≠ g ∧ 0 < xs.length ∧ xs.length < 1000000 ∧
  ∀ (H' : Hp) (x : V), StX H' d g c (s.next xs.length) → Kp d g H H' → xs[(s.val xs.length).toNat]? = some x → Q x H'
theorem scPk : FnScope ["state", "several"] ["state", "several"] (defScope sPick) := ⟨rfl, rfl, rfl, by decide +kernel, rfl, by decide +kernel, by decide +kernel⟩
theorem ok_pick {f fD fB : Addr} {fd fdD fdB : FuncData} (F : Fun K "_law_pick" "_law_pick" sPick f fd) (B : DrB mg) (FB : Fun K "_law_blended" "_law_blended" sBlended fB fdB) (mgB : mg "_law_blended" = some (.ref fB))
    (FD : Fun K "_law_draw" "_law_draw" sDraw fD fdD) (mgD : mg "_law_draw" = some (.ref fD)) : FnOk P w K mg base CX0 3 f fd ["state", "several"] spPick := by
  have GD : FnOk P w K mg base CX0 2 fD fdD ["state", "size_here"] spDraw := ok_draw FD B FB mgB
  have bD : Binds K fdD ["state", "size_here"] [] := FD.binds (ps := ["state", "size_here"]) fun _ _ _ _ _ _ us hl => match us, hl with | [_, _], _ => rfl
  refine F.ok scPk (fun vs H Q E h => ?_) (fun cdv A outer s H vs Q E hr h => ?_)
  · obtain ⟨d, g, c, a, s0, xs, rfl, _⟩ := h
    rfl
  · obtain ⟨d, g, c, a, s0, xs, rfl, hst, hT0, hT1, ha, nag, l0, l1, k⟩ := h
    refine ⟨_, pss_one (ps_ret (pe_ix ix_list (pv 1) (pe_call GD hr rfl mgD FD.kp bD .nil pass0 (pa_cons (pv 0) (pa_cons (pe_callB call_len_seq (by rfl) B.len PySem.boot_len (pa_cons (pv 1) pa_nil)) pa_nil))) (fun _ _ => rfl))), ?_⟩
    have nad : a ≠ d := ne_of ha hst.1 (by intro q; cases q)
    refine ⟨_, rfl, _, rfl, _, rfl, a, xs, rfl, Or.inl (SqL.of ha), d, g, c, s0, (xs.length : Int), rfl, hst, hT0, hT1, by omega, by omega, fun H1 st1 k1 => ?_⟩
    obtain ⟨v0, v1⟩ := val_in s0 (show (0 : Int) < (xs.length : Int) by omega)
    have hj : (s0.val xs.length).toNat < xs.length := by omega
    have e : s0.val xs.length = (((s0.val xs.length).toNat : Nat) : Int) := by omega
    generalize hx : xs[(s0.val xs.length).toNat] = x
    have hx' : xs[(s0.val xs.length).toNat]? = some x := by rw [List.getElem?_eq_getElem hj, hx]
    refine ⟨a, xs, _, x, rfl, rfl, SqL.of (k1 a _ nad nag ha), ?_, k _ _ st1 k1 hx'⟩
    rw [e]
    exact atI_nat hx'
end
end My
/-! _law_mixed -/
namespace My
open PySem PySem.Spec PyProof.Rows L2 Evl
/-- an int or a pair of ints -/
def ItemD (H : Hp) (x : V) : Prop := (∃ i, x = .int i) ∨ ∃ p, PairV H x p
theorem ItemD.up {H H' : Hp} {x : V} (e : Ex H H') (h : ItemD H x) : ItemD H' x := h.imp id fun ⟨p, q⟩ => ⟨p, q.up e⟩
theorem PairV.kp {H H' : Hp} {d g : Addr} {x : V} {p : Int × Int} (k : Kp d g H H') (hd : ∀ ys, H d ≠ some (.tup ys)) (hg : ∀ ys, H g ≠ some (.tup ys)) (h : PairV H x p) : PairV H' x p := by
  obtain ⟨t, rfl, ht⟩ := h
  exact ⟨t, rfl, k t _ (fun z => hd _ (z ▸ ht)) (fun z => hg _ (z ▸ ht)) ht⟩
theorem StX.nd {H : Hp} {d g c : Addr} {s : Src} (h : StX H d g c s) : ∀ ys, H d ≠ some (.tup ys) := fun ys z => by
  rw [h.1] at z
  cases z
theorem StX.ng {H : Hp} {d g c : Addr} {s : Src} (h : StX H d g c s) : ∀ ys, H g ≠ some (.tup ys) := fun ys z => by
  rw [h.2.1] at z
  cases z
theorem ItemD.kp {H H' : Hp} {d g c : Addr} {s : Src} {x : V} (st : StX H d g c s) (k : Kp d g H H') (h : ItemD H x) : ItemD H' x := h.imp id fun ⟨p, q⟩ => ⟨p, q.kp k st.nd st.ng⟩
theorem PrL.kp {H H' : Hp} {d g c : Addr} {s : Src} (st : StX H d g c s) (k : Kp d g H H') : ∀ {xs ps}, PrL H xs ps → PrL H' xs ps
  | _, _, .nil => .nil
  | _, _, .cons h r => .cons (h.kp k st.nd st.ng) (PrL.kp st k r)
theorem Kp.of {H H' : Hp} {d g : Addr} (e : Ex H H') : Kp d g H H' := fun b o _ _ h => e b o h
theorem Kp.trans {H H1 H2 : Hp} {d g : Addr} (a : Kp d g H H1) (b : Kp d g H1 H2) : Kp d g H H2 := fun x o h1 h2 h => b x o h1 h2 (a x o h1 h2 h)
theorem StX.up {H H' : Hp} {d g c : Addr} {s : Src} (e : Ex H H') (h : StX H d g c s) : StX H' d g c s := ⟨e _ _ h.1, e _ _ h.2.1, e _ _ h.2.2.1, h.2.2.2⟩
theorem dp_items {K : PySem.W.Frag} {H : Hp} : ∀ {xs : List V}, (∀ x ∈ xs, ItemD H x) → ∃ ds, DpAll K H xs ds ∧ ds.length = xs.length ∧ PyData.canLayAll0 ds = true ∧ PyData.depthAll ds ≤ 1
  | [], _ => ⟨[], .nil, rfl, by simp [PyData.canLayAll0], by simp [PyData.depthAll]⟩
  | x :: r, h => by
    obtain ⟨ds, h1, h2, h3, h4⟩ := dp_items (K := K) (xs := r) fun y hy => h y (List.mem_cons_of_mem _ hy)
    rcases h x List.mem_cons_self with ⟨i, rfl⟩ | ⟨p, t, rfl, ht⟩
    · exact ⟨.int i :: ds, .cons (.int i) h1, congrArg (· + 1) h2, by simp [PyData.canLayAll0, PyData.canLay0, h3], by simp [PyData.depthAll, PyData.depth, h4]⟩
    · exact ⟨.tuple [.int p.1, .int p.2] :: ds, .cons (.tup (SqT.of ht) (.cons (.int _) (.cons (.int _) .nil))) h1, congrArg (· + 1) h2, by simp [PyData.canLayAll0, PyData.canLay0, h3], by simp [PyData.depthAll, PyData.depth]; omega⟩
theorem eqv_nil (ds : List PyData) : PyData.eqv (.list ds) (.list []) = ds.isEmpty := by
  cases ds with
  | nil => simp [PyData.eqv, PyData.eqvAll]
  | cons a r => simp [PyData.eqv, PyData.eqvAll]
/-- xs != [] -/
theorem et_ne {K : PySem.W.Frag} {σ : L2.St} {H : Hp} {i : Nat} {l : Addr} {xs : List V} (hi : σ[i]? = some (some (.ref l))) (hl : H l = some (.lst xs)) (hx : ∀ x ∈ xs, ItemD H x) : EvT (tTest (tOp (rNeD K) (tVar i) (tLst tNil))) σ H (!xs.isEmpty) :=
  et_test (ev_opL (ev_var hi) (el_lst ea_nil (Nat.zero_le _)) fun p H1 hp e1 => rv_val fun H2 e2 Q q => by
    obtain ⟨ds, h1, h2, h3, h4⟩ := dp_items (K := K) (H := H2) (xs := xs) fun x m => (hx x m).up (e1.trans e2)
    have s1 : SeqAt.shaped (.list ds) = true := by
      have h5 : PyData.canLay0 (.list ds) = true := by unfold PyData.canLay0; exact h3
      have h6 : PyData.depth (.list ds) ≤ 2 := by
        show PyData.depthAll ds + 1 ≤ 2
        omega
      unfold SeqAt.shaped
      rw [h5, decide_eq_true (Nat.le_trans h6 (by decide))]
      rfl
    refine ⟨.list ds, .list [], Dp.lst (SqL.of ((e1.trans e2) _ _ hl)) h1, Dp.lst (SqL.of (e2 _ _ hp)) .nil, s1, by decide, ?_⟩
    rw [eqv_nil, show ds.isEmpty = xs.isEmpty by cases ds <;> cases xs <;> simp_all]
    exact q)
theorem perm_erase : ∀ (ys : List V) (j : Nat) (h : j < ys.length), (ys[j] :: ys.eraseIdx j).Perm ys
  | y :: r, 0, _ => .refl _
  | y :: r, j + 1, h => (List.Perm.swap y (r[j]'(Nat.lt_of_succ_lt_succ h)) (r.eraseIdx j)).trans ((perm_erase r j (Nat.lt_of_succ_lt_succ h)).cons y)
structure MxB (mg : Str → Option Value) : Prop where
  list : mg "list" = none
  len : mg "len" = none
theorem fill_cs (s : Src) : s.fill.cs = s.cs := by
  unfold Src.fill
  split
  · split <;> rfl
  · rfl
theorem next_cs (s : Src) (n : Int) : (s.next n).cs = s.cs := fill_cs s
theorem fill_turn (s : Src) : s.turn ≤ s.fill.turn ∧ s.fill.turn ≤ s.turn + 1 := by
  unfold Src.fill
  split
  · split
    · exact ⟨Int.le_refl _, by show s.turn ≤ _; omega⟩
    · exact ⟨by show s.turn ≤ s.turn + 1; omega, Int.le_refl _⟩
  · exact ⟨Int.le_refl _, by omega⟩
theorem next_turn (s : Src) (n : Int) : s.turn ≤ (s.next n).turn ∧ (s.next n).turn ≤ s.turn + 1 := fill_turn s
section
variable {P : Program} {w : World} {K : PySem.W.Frag} {mg : Str → Option Value} {base : Heap}
def spMixed (K : PySem.W.Frag) : Sp := fun vs H Q _ => ∃ (d g c a : Addr) (s : Src) (xs : List V), vs = [.ref d, .ref a] ∧ StX H d g c s ∧ 0 ≤ s.turn ∧ s.turn < 2 ^ 899 ∧ (SqL K H a xs ∨ SqT K H a xs) ∧ (∀ x ∈ xs, ItemD H x) ∧ xs.length ≤ 1000 ∧
  ∀ (H' : Hp) (s' : Src) (p : Addr) (ys : List V), StX H' d g c s' → s'.cs = s.cs → s.turn ≤ s'.turn → s'.turn ≤ s.turn + 1000 → Kp d g H H' → H p = none → p ≠ d → p ≠ g → H' p = some (.lst ys) → ys.Perm xs → Q (.ref p) H'
theorem scMx : FnScope ["state", "several", "left", "found"] ["state", "several"] (defScope s_law_mixed) := ⟨rfl, rfl, rfl, by decide +kernel, rfl, by decide +kernel, by decide +kernel⟩
theorem ok_mixed {f fD fB : Addr} {fd fdD fdB : FuncData} (F : Fun K "_law_mixed" "_law_mixed" s_law_mixed f fd) (B : DrB mg) (M : MxB mg) (FB : Fun K "_law_blended" "_law_blended" sBlended fB fdB) (mgB : mg "_law_blended" = some (.ref fB))
    (FD : Fun K "_law_draw" "_law_draw" sDraw fD fdD) (mgD : mg "_law_draw" = some (.ref fD)) : FnOk P w K mg base CX0 3 f fd ["state", "several"] (spMixed K) := by
  have GD : FnOk P w K mg base CX0 2 fD fdD ["state", "size_here"] spDraw := ok_draw FD B FB mgB
  have bD : Binds K fdD ["state", "size_here"] [] := FD.binds (ps := ["state", "size_here"]) fun _ _ _ _ _ _ us hl => match us, hl with | [_, _], _ => rfl
  refine F.ok scMx (fun vs H Q E h => ?_) (fun cdv A outer s H vs Q E hr h => ?_)
  · obtain ⟨d, g, c, a, s0, xs, rfl, _⟩ := h
    rfl
  · obtain ⟨d, g, c, a, s0, xs, rfl, hst, t0, t1, hS, hI, hl, k⟩ := h
    refine ⟨_, pss_cons (ps_par (i := 2) (j := 3) rfl scMx.nd rfl rfl (by decide) rfl rfl (pa_cons (pe_callTy call_list_of (by rfl) M.list (by decide +kernel) (pa_cons (pv 1) pa_nil)) (pa_cons (pe_lst pa_nil) pa_nil)) (by rfl))
      (pss_cons (ps_while PassesOwn.never (pt_cmpR (op_neD hr.units) (pv 2) (pe_lst pa_nil) (nomark _))
        (pss_one (ps_expr (pe_bm PySem.F.plainAttrs_list PySem.F.slot_list_append PySem.F.type_list_append mt_append (pv 3)
          (pa_cons (pe_bm PySem.F.plainAttrs_list PySem.F.slot_list_pop PySem.F.type_list_pop mt_popAt (pv 2) (pa_cons (pe_call GD hr (by rfl) mgD FD.kp bD .nil pass0 (pa_cons (pv 0) (pa_cons (pe_callB call_len_seq (by rfl) M.len PySem.boot_len (pa_cons (pv 2) pa_nil)) pa_nil))) pa_nil)) pa_nil)))))
      (pss_one (ps_ret (pv 3)))), ?_⟩
    refine ⟨_, rfl, a, xs, rfl, hS, fun l hlN => ?_⟩
    refine ⟨Nat.zero_le _, fun f0 hfN => ⟨_, _, rfl, ?_⟩⟩
    have nlf : l ≠ f0 := fun z => by
      rw [← z, upd_same] at hfN
      cases hfN
    have hf0 : H f0 = none := by
      rw [upd_ne nlf.symm] at hfN
      exact hfN
    have e2 : Ex H (upd (upd H l (.lst xs)) f0 (.lst [])) := (Ex.new hlN).trans (Ex.new hfN)
    have nld : l ≠ d := fun z => by rw [z, hst.1] at hlN; cases hlN
    have nlg : l ≠ g := fun z => by rw [z, hst.2.1] at hlN; cases hlN
    have nlc : l ≠ c := fun z => by rw [z, hst.2.2.1] at hlN; cases hlN
    have nfd : f0 ≠ d := fun z => by rw [z, hst.1] at hf0; cases hf0
    have nfg : f0 ≠ g := fun z => by rw [z, hst.2.1] at hf0; cases hf0
    have nfc : f0 ≠ c := fun z => by rw [z, hst.2.2.1] at hf0; cases hf0
    let Pv : Nat → L2.St → Hp → Prop := fun m σ' H' => ∃ (s' : Src) (ys zs : List V), σ' = [some (.ref d), some (.ref a), some (.ref l), some (.ref f0)] ∧ StX H' d g c s' ∧ s'.cs = s0.cs ∧ s0.turn ≤ s'.turn ∧ s'.turn ≤ s0.turn + zs.length ∧ H' l = some (.lst ys) ∧ H' f0 = some (.lst zs) ∧
      (zs ++ ys).Perm xs ∧ m = ys.length ∧ Kp d g H H' ∧ ∀ x ∈ ys, ItemD H' x
    show tSeq (tWhile _ _) _ _ _ _
    refine s_while (D := { nx := _, rt := _ }) Pv xs.length ⟨s0, xs, [], rfl, hst.up e2, rfl, Int.le_refl _, by show s0.turn ≤ s0.turn + 0; omega, by rw [upd_ne nlf, upd_same], upd_same, List.Perm.refl _, rfl, Kp.of e2, fun x m => (hI x m).up e2⟩ ?_
    rintro m σ' H' ⟨s', ys, zs, rfl, st, hcs, tlo, thi, hl', hf', pm, rfl, kp, it⟩
    have hzs : zs.length + ys.length = xs.length := by
      rw [← pm.length_eq, List.length_append]
    refine ⟨_, et_ne rfl hl' it, fun hb H1 e1 => ?_, fun hb H1 e1 => ?_⟩
    · have hn : 0 < ys.length := by
        cases ys with
        | nil => cases hb
        | cons _ _ => exact Nat.succ_pos _
      refine ⟨fun σ2 H2 => ∃ m', m' < ys.length ∧ Pv m' σ2 H2, fun _ _ h => h, ?_⟩
      refine ⟨_, rfl, Or.inl ⟨rfl, _, SqL.of (e1 _ _ hf')⟩, _, rfl, Or.inl ⟨rfl, _, SqL.of (e1 _ _ hl')⟩, _, rfl, _, rfl, l, ys, rfl, Or.inl (SqL.of (e1 _ _ hl')), d, g, c, s', (ys.length : Int), rfl, st.up e1, by omega, by omega, by omega, by omega, fun H2 st2 k2 => ?_⟩
      obtain ⟨v0, v1⟩ := val_in s' (show (0 : Int) < (ys.length : Int) by omega)
      have hj : (s'.val ys.length).toNat < ys.length := by omega
      have ev : s'.val ys.length = (((s'.val ys.length).toNat : Nat) : Int) := by omega
      generalize (s'.val ys.length).toNat = j at hj ev
      have hl2 := k2 l _ nld nlg (e1 _ _ hl')
      have hf2 := k2 f0 _ nfd nfg (e1 _ _ hf')
      refine ⟨l, ys, s'.val ys.length, j, ys[j], rfl, rfl, hl2, by omega, by omega, ?_, List.getElem?_eq_getElem hj, ?_⟩
      · rw [ev]
        unfold seqIndex?
        simp
        omega
      · refine ⟨f0, zs, ys[j], rfl, rfl, by rw [upd_ne nlf.symm]; exact hf2, small1000 (by omega), ?_⟩
        obtain ⟨n1, n2⟩ := next_turn s' ys.length
        refine ⟨(ys.eraseIdx j).length, by rw [List.length_eraseIdx]; split <;> omega, s'.next ys.length, ys.eraseIdx j, zs ++ [ys[j]], rfl, ?_, by rw [next_cs, hcs], by omega, by rw [List.length_append]; show _ ≤ s0.turn + ((zs.length + 1 : Nat) : Int); omega, ?_, upd_same, ?_, rfl, ?_, ?_⟩
        · refine ⟨?_, ?_, ?_, st2.2.2.2⟩
          · rw [upd_ne nfd.symm, upd_ne nld.symm]; exact st2.1
          · rw [upd_ne nfg.symm, upd_ne nlg.symm]; exact st2.2.1
          · rw [upd_ne nfc.symm, upd_ne nlc.symm]; exact st2.2.2.1
        · rw [upd_ne nlf, upd_same]
        · refine List.Perm.trans ?_ pm
          rw [List.append_assoc]
          refine List.Perm.append_left zs ?_
          exact perm_erase ys j hj
        · intro b o nb ng hb'
          have nbl : b ≠ l := fun z => by rw [z, hlN] at hb'; cases hb'
          have nbf : b ≠ f0 := fun z => by rw [z, hf0] at hb'; cases hb'
          rw [upd_ne nbf, upd_ne nbl]
          exact k2 b o nb ng (e1 _ _ (kp b o nb ng hb'))
        · intro x hx
          have hx' : x ∈ ys := List.mem_of_mem_eraseIdx hx
          have i2 := ((it x hx').up e1).kp (st.up e1) k2
          rcases i2 with ⟨i, rfl⟩ | ⟨p, t, rfl, ht⟩
          · exact .inl ⟨i, rfl⟩
          · refine .inr ⟨p, t, rfl, ?_⟩
            rw [upd_ne (ne_of ht hf2 (by intro q; cases q)), upd_ne (ne_of ht hl2 (by intro q; cases q))]
            exact ht
    · have hy : ys = [] := by
        cases ys with
        | nil => rfl
        | cons _ _ => cases hb
      subst hy
      rw [List.append_nil] at pm
      refine ⟨_, rfl, k H1 s' f0 zs (st.up e1) hcs tlo ?_ (kp.trans (Kp.of e1)) hf0 nfd nfg (e1 _ _ hf') pm⟩
      have := pm.length_eq
      omega
end
end My
/-! is_whole, is_number -/
namespace My
open PySem PySem.Spec PyProof.Rows L2 Evl
structure CkB (mg : Str → Option Value) : Prop where
  isi : mg "isinstance" = none
  int : mg "int" = none
  bool : mg "bool" = none
  tup : mg "tuple" = none
  all : mg "all" = none
  len : mg "len" = none
  zip : mg "zip" = none
section
variable {P : Program} {w : World} {K : PySem.W.Frag} {mg : Str → Option Value} {base : Heap}
def spWhole : Sp := fun vs H Q _ => ∃ x, vs = [x] ∧ flatV x = true ∧ RetV (.bl (wholeV x)) H Q
theorem scWh : FnScope ["value"] ["value"] (defScope s_is_whole) := ⟨rfl, rfl, rfl, by decide +kernel, rfl, by decide +kernel, by decide +kernel⟩
theorem ru_negI {H : Hp} {i : Int} : RU (rU fun i => .int (-i)) (.int i) H (.int (-i)) := ru_neg
theorem ok_whole {f : Addr} {fd : FuncData} (F : Fun K "is_whole" "is_whole" s_is_whole f fd) (B : CkB mg) : FnOk P w K mg base CX0 1 f fd ["value"] spWhole := by
  refine F.ok scWh (fun vs H Q E h => ?_) (fun cdv A outer s H vs Q E hr h => ?_)
  · obtain ⟨x, rfl, _⟩ := h
    rfl
  · obtain ⟨x, rfl, hx, k⟩ := h
    refine ⟨_, pss_one (ps_ret (pe_and (pe_callB call_isi (by rfl) B.isi boot_isi (pa_cons (pv 0) (pa_cons (pe_bltn (v := .ty "int") (by rfl) B.int boot_intT rfl) pa_nil)))
      (pe_and (pe_not (pe_callB call_isi (by rfl) B.isi boot_isi (pa_cons (pv 0) (pa_cons (pe_bltn (v := .ty "bool") (by rfl) B.bool boot_boolT rfl) pa_nil))))
      (pe_one (pe_chain op_lt op_lt (pe_un un_neg (pe_op op_pow pe_int pe_int)) (pv 0) (pe_op op_pow pe_int pe_int)))))), ?_⟩
    have ePow : ∀ (H1 : Hp) (σ : L2.St), Ev (tOp (rI CPow fun i j => .int (i ^ j.toNat)) (tC (.int 10)) (tC (.int 18))) σ H1 (.int ((10 : Int) ^ (18 : Int).toNat)) :=
      fun H1 σ => ev_op ev_c ev_c (rv_I ⟨by decide, by decide, by decide⟩)
    refine s_ret (v := .bl (wholeV x)) (ev_is (ev_andV (b := !isBoolV x && wholeV x) (ev_isi (ev_var rfl) (.ty _) (fun _ _ => ty_flat hx) (kit_int hx)) (fun h1 => ev_andV (b := wholeV x) (ev_notV (ev_isi (ev_var rfl) (.ty _) (fun _ _ => ty_flat hx) (kit_bool hx))) (fun h2 => ?_))) ?_) (fun H1 e1 => k.go e1)
    · cases x with
      | int i => exact ev_chain (ev_un (ePow _ _) ru_neg) (ev_var rfl) rv_I0 (fun _ => ePow _ _) (fun _ => rv_I0)
      | bl b => cases h2
      | _ => cases h1
    · cases x with
      | int i =>
        show V.bl (true && (true && _)) = _
        rw [Bool.true_and, Bool.true_and]
      | _ => rfl
def spNumber : Sp := fun vs H Q _ => ∃ x lo hi, vs = [x, .int lo, .int hi] ∧ flatV x = true ∧ RetV (.bl (numV x lo hi)) H Q
theorem scNu : FnScope ["value", "least", "most"] ["value", "least", "most"] (defScope s_is_number) := ⟨rfl, rfl, rfl, by decide +kernel, rfl, by decide +kernel, by decide +kernel⟩
theorem sp_whole {H : Hp} {x : V} (hx : flatV x = true) : SpV spWhole [x] H (.bl (wholeV x)) := fun H1 e Q q E => ⟨x, rfl, hx, fun H2 e2 => q H2 e2⟩
theorem ok_number {f fW : Addr} {fd fdW : FuncData} (F : Fun K "is_number" "is_number" s_is_number f fd) (B : CkB mg) (FW : Fun K "is_whole" "is_whole" s_is_whole fW fdW) (mgW : mg "is_whole" = some (.ref fW)) : FnOk P w K mg base CX0 2 f fd ["value", "least", "most"] spNumber := by
  have GW : FnOk P w K mg base CX0 1 fW fdW ["value"] spWhole := ok_whole FW B
  have bW : Binds K fdW ["value"] [] := FW.binds (ps := ["value"]) fun _ _ _ _ _ _ us hl => match us, hl with | [_], _ => rfl
  refine F.ok scNu (fun vs H Q E h => ?_) (fun cdv A outer s H vs Q E hr h => ?_)
  · obtain ⟨x, lo, hi, rfl, _⟩ := h
    rfl
  · obtain ⟨x, lo, hi, rfl, hx, k⟩ := h
    refine ⟨_, pss_one (ps_ret (pe_and (pe_call GW hr (by rfl) mgW FW.kp bW .nil pass0 (pa_cons (pv 0) pa_nil)) (pe_one (pe_chain op_le op_le (pv 1) (pv 0) (pv 2))))), ?_⟩
    refine s_ret (v := .bl (numV x lo hi)) (ev_is (ev_andV (b := rngV x lo hi) (ev_call (ea_cons (ev_var rfl) ea_nil) (sp_whole hx)) (fun h1 => ?_)) ?_) (fun H1 e1 => k.go e1)
    · cases x with
      | int i => exact ev_chain (ev_var rfl) (ev_var rfl) rv_I0 (fun _ => ev_var rfl) (fun _ => rv_I0)
      | _ => cases h1
    · rfl
end
end My
/-! is_rising, is_pair_of, Net of what is right -/
namespace My
open PySem PySem.Spec PyProof.Rows L2 Evl
theorem ps_dead {X : Cx} {st : Stmt} : PS X st (fun _ _ _ => False) := ⟨fun _ _ _ _ _ _ h => h.elim⟩
section
variable {P : Program} {w : World} {K : PySem.W.Frag} {mg : Str → Option Value} {base : Heap}
def spRising (K : PySem.W.Frag) : Sp := fun vs H Q _ => ∃ (a : Addr) (xs : List V) (ks : List (Int × Int)), vs = [.ref a] ∧ SqT K H a xs ∧ PrL H xs ks ∧ ks.length ≤ 300 ∧ RetV (.bl (asc ks)) H Q
theorem scRi : FnScope ["value", "one", "other"] ["value"] (defScope s_is_rising) := ⟨rfl, rfl, rfl, by decide +kernel, rfl, by decide +kernel, by decide +kernel⟩
theorem asc_all : ∀ ks : List (Int × Int), ((List.range (min ks.length (ks.length - 1))).map fun i => ltB (ks.getD i (0, 0)) (ks.getD (i + 1) (0, 0))).all id = asc ks
  | [] => rfl
  | [_] => rfl
  | p :: q :: r => by
    have ih := asc_all (q :: r)
    have e : min (p :: q :: r).length ((p :: q :: r).length - 1) = min (q :: r).length ((q :: r).length - 1) + 1 := by
      simp only [List.length_cons]
      omega
    rw [e, List.range_succ_eq_map, List.map_cons, List.map_map, List.all_cons]
    show (ltB p q && _) = (ltB p q && asc (q :: r))
    rw [← ih]
    rfl
theorem ok_rising {f : Addr} {fd : FuncData} (F : Fun K "is_rising" "is_rising" s_is_rising f fd) (B : CkB mg) : FnOk P w K mg base CX0 1 f fd ["value"] (spRising K) := by
  refine F.ok scRi (fun vs H Q E h => ?_) (fun cdv A outer s H vs Q E hr h => ?_)
  · obtain ⟨a, xs, ks, rfl, _⟩ := h
    rfl
  · obtain ⟨a, xs, ks, rfl, hx, hk, hl, k⟩ := h
    have hu0 := hr.units0
    refine ⟨_, pss_one (ps_ret (pe_callB (call_allB rfl) (by rfl) B.all boot_all (pa_cons (pe_lc (own := [("one", 1), ("other", 2)]) (g := gTup K 2 (gCons (gName 1) (gCons (gName 2) gNil))) rfl scRi.nd
      (RZ.pi_zipA (by rfl) B.zip (pa_cons (pv 0) (pa_cons (pe_slice sl_tupA (pv 0) (po_some pe_int) po_none) pa_nil))) (blkOk_by (N := ["value", "one", "other"]) (sc := defScope s_is_rising) (by decide +kernel))
      (fun _ _ _ _ _ => pg_tup rfl (pgs_cons (pg_name (i := 1) scRi.nd rfl (Or.inl rfl)) (pgs_cons (pg_name (i := 2) scRi.nd rfl (Or.inl rfl)) pgs_nil))) (fun _ _ _ _ _ => pts_nil) (fun _ _ _ _ _ => pe_cmpR (r := rLtT K) (op_ltT hu0) (pv 1) (pv 2) (nomark _))) pa_nil))), ?_⟩
    have hlen := hk.len
    have hLC : EvL (tLc (RZ.iZipA K (tCons (tVar 0) (tCons (tSl (rSlA K) (tVar 0) (tPart (tC (.int 1))) tNoPart) tNil))) (gTup K 2 (gCons (gName 1) (gCons (gName 2) gNil))) tYes (tOp (rLtT K) (tVar 1) (tVar 2)) [1, 2]) [some (.ref a), none, none] H
        (given (min xs.length (xs.drop 1).length) (fun _ => true) fun i => V.bl (ltB (ks.getD i (0, 0)) (ks.getD (i + 1) (0, 0)))) := by
      refine el_lcW (n := min xs.length (xs.drop 1).length) (Y := YPair (fun i => xs[i]?) (fun i => (xs.drop 1)[i]?)) _ _ (by rw [List.length_drop]; omega) (fun H1 e1 R hR => ?_) (fun i x H1 H2 hi e1 y => ?_)
      · refine ⟨_, rfl, es_sl (es_var rfl (ex_t e1 hx)) (eo_some ev_c) eo_none H1 (Ex.refl _) _ fun p H2 e2 hp => ⟨a, p, xs, _, rfl, .inr ⟨ex_t (e1.trans e2) hx, hp, hR _ H2 e2 (Walk.mono (walk_zipT (K := K) (a := a) (b := p) (xs := xs) (ys := xs.drop 1) rfl) (fun H' e' => ⟨ex_t ((e1.trans e2).trans e') hx, ?_⟩) fun _ _ _ _ _ _ y => y)⟩⟩⟩
        have z := ex_t e' hp
        rw [show cutV xs (some 1) none = xs.drop 1 from cut_from xs 1] at z
        exact z
      · obtain ⟨T, u, v, rfl, hT, rfl, hu, hv⟩ := y
        obtain ⟨p, hp, pu⟩ := hk.get i u hu
        replace hv : (xs.drop 1)[i]? = some v := hv
        rw [List.getElem?_drop] at hv
        obtain ⟨q, hq, qv⟩ := hk.get (1 + i) v hv
        have e3 : ltB (ks.getD i (0, 0)) (ks.getD (i + 1) (0, 0)) = ltB p q := by
          rw [List.getD_eq_getElem?_getD, List.getD_eq_getElem?_getD, hp, Nat.add_comm i 1, hq]
          rfl
        refine ⟨Ex.new hT, _, fun R hR => g_pair hR, rfl, fun H3 _ Q q => q H3 (Ex.refl _), fun _ => ?_⟩
        rw [e3]
        exact ev_op (ev_var rfl) (ev_var rfl) (rv_ltP pu qv)
    refine s_ret (v := .bl (asc ks)) (ev_is (ev_all (el_is (ys := ((List.range (min ks.length (ks.length - 1))).map fun i => ltB (ks.getD i (0, 0)) (ks.getD (i + 1) (0, 0))).map V.bl) hLC ?_)) (by rw [asc_all])) (fun H1 e1 => k.go e1)
    rw [given_all, List.map_map, List.length_drop, hlen]
    rfl
/-! ### is_pair_of -/
def pairB (m : Int) (p : Int × Int) : Bool := numV (.int p.1) 0 (m - 1) && (numV (.int p.2) 0 (m - 1) && decide (p.1 < p.2))
def spPairOf : Sp := fun vs H Q _ => ∃ (m : Int) (x : V) (p : Int × Int), vs = [.int m, x] ∧ PairV H x p ∧ RetV (.bl (pairB m p)) H Q
theorem scPo : FnScope ["many", "value"] ["many", "value"] (defScope s_is_pair_of) := ⟨rfl, rfl, rfl, by decide +kernel, rfl, by decide +kernel, by decide +kernel⟩
theorem sp_number {H : Hp} {x : V} {lo hi : Int} (hx : flatV x = true) : SpV spNumber [x, .int lo, .int hi] H (.bl (numV x lo hi)) := fun H1 e Q q E => ⟨x, lo, hi, rfl, hx, fun H2 e2 => q H2 e2⟩
theorem ok_pairOf {f fN fW : Addr} {fd fdN fdW : FuncData} (F : Fun K "is_pair_of" "is_pair_of" s_is_pair_of f fd) (B : CkB mg) (FN : Fun K "is_number" "is_number" s_is_number fN fdN) (mgN : mg "is_number" = some (.ref fN)) (FW : Fun K "is_whole" "is_whole" s_is_whole fW fdW) (mgW : mg "is_whole" = some (.ref fW)) :
    FnOk P w K mg base CX0 3 f fd ["many", "value"] spPairOf := by
  have GN : FnOk P w K mg base CX0 2 fN fdN ["value", "least", "most"] spNumber := ok_number FN B FW mgW
  have bN : Binds K fdN ["value", "least", "most"] [] := FN.binds (ps := ["value", "least", "most"]) fun _ _ _ _ _ _ us hl => match us, hl with | [_, _, _], _ => rfl
  refine F.ok scPo (fun vs H Q E h => ?_) (fun cdv A outer s H vs Q E hr h => ?_)
  · obtain ⟨m, x, p, rfl, _⟩ := h
    rfl
  · obtain ⟨m, x, p, rfl, ⟨t, rfl, ht⟩, k⟩ := h
    refine ⟨_, pss_cons (ps_if (PW.pt (pw_or (pt_not (pt_val (pe_callB call_isi (by rfl) B.isi boot_isi (pa_cons (pv 1) (pa_cons (pe_bltn (v := .ty "tuple") (by rfl) B.tup boot_tupT rfl) pa_nil)))))
        (pw_or1 (pt_cmpR op_ne (pe_callB call_len_seq (by rfl) B.len PySem.boot_len (pa_cons (pv 1) pa_nil)) pe_int (nomark _))))) (pss_one (ps_ret pe_bl)) pss_nil)
      (pss_one (ps_ret (pe_and (pe_call GN hr (by rfl) mgN FN.kp bN .nil pass0 (pa_cons (pe_ix ix_tup (pv 1) pe_int (fun _ _ => rfl)) (pa_cons pe_int (pa_cons (pe_op op_sub (pv 0) pe_int) pa_nil))))
        (pe_and (pe_call GN hr (by rfl) mgN FN.kp bN .nil pass0 (pa_cons (pe_ix ix_tup (pv 1) pe_int (fun _ _ => rfl)) (pa_cons pe_int (pa_cons (pe_op op_sub (pv 0) pe_int) pa_nil))))
        (pe_one (pe_cmpR op_lt (pe_ix ix_tup (pv 1) pe_int (fun _ _ => rfl)) (pe_ix ix_tup (pv 1) pe_int (fun _ _ => rfl)) (nomark _))))))), ?_⟩
    have i0 : ∀ H', Ex H H' → Ev (tOp (rIxT K) (tVar 1) (tC (.int 0))) [some (.int m), some (.ref t)] H' (.int p.1) := fun H' e => ev_op (ev_var rfl) ev_c (rv_ixT (SqT.of (e _ _ ht)) rfl)
    have i1 : ∀ H', Ex H H' → Ev (tOp (rIxT K) (tVar 1) (tC (.int 1))) [some (.int m), some (.ref t)] H' (.int p.2) := fun H' e => ev_op (ev_var rfl) ev_c (rv_ixT (SqT.of (e _ _ ht)) rfl)
    refine q_when (b := false) (et_is (et_or (et_not (et_B (ev_isi (ev_var rfl) (.ty _) (fun _ e => ty_tup (SqT.of (e _ _ ht))) (b := true) rfl))) (fun _ => et_test (ev_op (ev_lenS (es_var rfl (SqT.of ht))) ev_c (rv_ne rfl)))) (by rfl)) (fun z => by cases z) (fun _ H1 e1 => ?_)
    refine s_ret (ev_andV (ev_call (ea_cons (i0 _ e1) (ea_cons ev_c (ea_cons (ev_op (ev_var rfl) ev_c rv_I0) ea_nil))) (sp_number rfl)) (fun _ => ev_andV (ev_call (ea_cons (i1 _ e1) (ea_cons ev_c (ea_cons (ev_op (ev_var rfl) ev_c rv_I0) ea_nil))) (sp_number rfl)) (fun _ => ev_op (i0 _ e1) (i1 _ e1) rv_I0))) (fun H2 e2 => k.go (e1.trans e2))
/-! ### Net -/
structure NtF (K : PySem.W.Frag) (mg : Str → Option Value) (C fI : Addr) : Prop where
  cl : Cls K C
  nM : NoAttr K C "many"
  nT : NoAttr K C "ties"
  mkr : Mk K C fI
  g : mg "Net" = some (.ref C)
  most : ∃ t, mg "MOST_POINTS" = some (.int 24 t)
def nf (m : Int) (a : Addr) : List (Str × V) := [("many", .int m), ("ties", .ref a)]
theorem nf_eq (m : Int) (a : Addr) : putF "ties" (.ref a) (putF "many" (.int m) []) = nf m a := by
  have h : ¬ (("many" : Str) = "ties") := by decide +kernel
  show (if ("many" : Str) = "ties" then _ else (("many" : Str), V.int m) :: [(("ties" : Str), V.ref a)]) = nf m a
  rw [if_neg h]
  rfl
/-- a net as the class lets it be -/
structure OkNet (m : Int) (ks : List (Int × Int)) : Prop where
  lo : 1 ≤ m
  hi : m ≤ 24
  tie : ∀ p ∈ ks, 0 ≤ p.1 ∧ p.1 < p.2 ∧ p.2 < m
  asc : asc ks = true
  few : ks.length ≤ 300
/-- a Net at x -/
def NetV (K : PySem.W.Frag) (C : Addr) (H : Hp) (x : V) (m : Int) (ks : List (Int × Int)) : Prop := ∃ (s dx a : Addr) (xs : List V), x = .ref s ∧ H s = some (.ins C dx (nf m a)) ∧ SqT K H a xs ∧ PrL H xs ks
theorem NetV.up {C : Addr} {H H' : Hp} {x : V} {m : Int} {ks : List (Int × Int)} (e : Ex H H') (h : NetV K C H x m ks) : NetV K C H' x m ks :=
  let ⟨s, dx, a, xs, h1, h2, h3, h4⟩ := h
  ⟨s, dx, a, xs, h1, e _ _ h2, ex_t e h3, h4.up e⟩
def spNetI (K : PySem.W.Frag) (C : Addr) : Sp := fun vs H Q _ => ∃ (s dx a : Addr) (m : Int) (xs : List V) (ks : List (Int × Int)), vs = [.ref s, .int m, .ref a] ∧ H s = some (.ins C dx []) ∧ SqT K H a xs ∧ PrL H xs ks ∧ OkNet m ks ∧
  ∀ H' : Hp, (∀ b o, b ≠ s → H b = some o → H' b = some o) → H' s = some (.ins C dx (nf m a)) → Q .non H'
theorem scNi : FnScope ["self", "many", "ties", "tie"] ["self", "many", "ties"] (defScope s_Net_init) := ⟨rfl, rfl, rfl, by decide +kernel, rfl, by decide +kernel, by decide +kernel⟩
theorem num_in {i lo hi : Int} (h1 : -(10 ^ 18 : Int) < i) (h2 : i < 10 ^ 18) (h3 : lo ≤ i) (h4 : i ≤ hi) : numV (.int i) lo hi = true := by
  show ((decide (-(10 ^ 18 : Int) < i) && decide (i < 10 ^ 18)) && (decide (lo ≤ i) && decide (i ≤ hi))) = true
  rw [decide_eq_true h1, decide_eq_true h2, decide_eq_true h3, decide_eq_true h4]
  rfl
theorem pair_in {m : Int} {p : Int × Int} (hm : m ≤ 24) (h : 0 ≤ p.1 ∧ p.1 < p.2 ∧ p.2 < m) : pairB m p = true := by
  unfold pairB
  rw [num_in (by omega) (by omega) (by omega) (by omega), num_in (by omega) (by omega) (by omega) (by omega)]
  simp
  exact h.2.1
theorem ok_netI {f fP fR fN fW C fI : Addr} {fd fdP fdR fdN fdW : FuncData} (F : Fun K "__init__" "Net.__init__" s_Net_init f fd) (B : CkB mg) (T : NtF K mg C fI) (FP : Fun K "is_pair_of" "is_pair_of" s_is_pair_of fP fdP) (mgP : mg "is_pair_of" = some (.ref fP))
    (FR : Fun K "is_rising" "is_rising" s_is_rising fR fdR) (mgR : mg "is_rising" = some (.ref fR))
    (FN : Fun K "is_number" "is_number" s_is_number fN fdN) (mgN : mg "is_number" = some (.ref fN)) (FW : Fun K "is_whole" "is_whole" s_is_whole fW fdW) (mgW : mg "is_whole" = some (.ref fW)) :
    FnOk P w K mg base CX0 4 f fd ["self", "many", "ties"] (spNetI K C) := by
  have GN : FnOk P w K mg base CX0 2 fN fdN ["value", "least", "most"] spNumber := ok_number FN B FW mgW
  have bN : Binds K fdN ["value", "least", "most"] [] := FN.binds (ps := ["value", "least", "most"]) fun _ _ _ _ _ _ us hl => match us, hl with | [_, _, _], _ => rfl
  have GP : FnOk P w K mg base CX0 3 fP fdP ["many", "value"] spPairOf := ok_pairOf FP B FN mgN FW mgW
  have bP : Binds K fdP ["many", "value"] [] := FP.binds (ps := ["many", "value"]) fun _ _ _ _ _ _ us hl => match us, hl with | [_, _], _ => rfl
  have GR : FnOk P w K mg base CX0 1 fR fdR ["value"] (spRising K) := ok_rising FR B
  have bR : Binds K fdR ["value"] [] := FR.binds (ps := ["value"]) fun _ _ _ _ _ _ us hl => match us, hl with | [_], _ => rfl
  obtain ⟨tk24, g24⟩ := T.most
  refine F.ok scNi (fun vs H Q E h => ?_) (fun cdv A outer s H vs Q E hr h => ?_)
  · obtain ⟨s, dx, a, m, xs, ks, rfl, _⟩ := h
    rfl
  · obtain ⟨sf, dx, a, m, xs, ks, rfl, hs, hx, hk, ok, k⟩ := h
    have hr2 := hr.mono (show 2 ≤ 3 by decide)
    have hr1 := hr.mono (show 1 ≤ 3 by decide)
    refine ⟨_, pss_cons (ps_if (pt_not (pt_val (pe_call GN hr2 (by rfl) mgN FN.kp bN .nil pass0 (pa_cons (pv 1) (pa_cons pe_int (pa_cons (pe_glob (v := .int 24) (by rfl) g24 ⟨tk24, rfl⟩) pa_nil)))))) (pss_one ps_dead) pss_nil)
      (pss_cons (ps_if (PW.pt (pw_or (pt_not (pt_val (pe_callB call_isi (by rfl) B.isi boot_isi (pa_cons (pv 2) (pa_cons (pe_bltn (v := .ty "tuple") (by rfl) B.tup boot_tupT rfl) pa_nil)))))
        (pw_or (pt_not (pt_val (pe_callB (call_allB rfl) (by rfl) B.all boot_all (pa_cons (pe_lc (own := [("tie", 3)]) (g := gName 3) rfl scNi.nd (pi_tup (pv 2)) (blkOk_by (N := ["self", "many", "ties", "tie"]) (sc := defScope s_Net_init) (by decide +kernel))
            (fun _ _ _ _ _ => pg_name (i := 3) scNi.nd rfl (Or.inl rfl)) (fun _ _ _ _ _ => pts_nil) (fun _ _ _ _ _ => pe_call GP hr (by rfl) mgP FP.kp bP .nil pass0 (pa_cons (pv 1) (pa_cons (pv 3) pa_nil)))) pa_nil))))
        (pw_or1 (pt_not (pt_val (pe_call GR hr1 (by rfl) mgR FR.kp bR .nil pass0 (pa_cons (pv 2) pa_nil)))))))) (pss_one ps_dead) pss_nil)
      (pss_cons (ps_fld (pv 0) (pv 1) rfl) (pss_one (ps_fld (pv 0) (pv 2) rfl)))), ?_⟩
    refine q_when (b := false) (et_is (et_not (et_B (ev_call (ea_cons (ev_var rfl) (ea_cons ev_c (ea_cons ev_c ea_nil))) (sp_number rfl)))) (by rw [num_in (by have := ok.lo; omega) (by have := ok.hi; omega) ok.lo ok.hi]; rfl)) (fun z => by cases z) (fun _ H1 e1 => ?_)
    have hlen := hk.len
    have few := ok.few
    have hLC : EvL (tLc (iTup K (tVar 2)) (gName 3) tYes (tCall spPairOf [] E0 (tCons (tVar 1) (tCons (tVar 3) tNil))) [3]) [some (.ref sf), some (.int m), some (.ref a), none] H1 (given xs.length (fun _ => true) fun i => V.bl (pairB m (ks.getD i (0, 0)))) := by
      refine el_lcW (n := xs.length) (Y := YAt xs) _ _ (by omega) (fun H2 e2 R hR => ⟨_, rfl, a, rfl, ⟨xs, ex_t (e1.trans e2) hx⟩, hR _ H2 (Ex.refl _) (Walk.mono (walk_tup (K := K) (a := a) (xs := xs)) (fun H' e' => ex_t ((e1.trans e2).trans e') hx) fun _ _ _ _ _ _ y => y)⟩) (fun i x H2 H3 hi e2 y => ?_)
      obtain ⟨rfl, hy⟩ := y
      obtain ⟨p, hp, px⟩ := hk.get i x hy
      refine ⟨Ex.refl _, _, fun R hR => hR, rfl, fun H3 _ Q q => q H3 (Ex.refl _), fun _ => ?_⟩
      rw [List.getD_eq_getElem?_getD, hp]
      exact ev_call (ea_cons (ev_var rfl) (ea_cons (ev_var rfl) ea_nil)) (fun H3 e3 Q q E => ⟨m, x, p, rfl, px.up (e1.trans e3), fun H4 e4 => q H4 e4⟩)
    refine q_when (b := false) (et_is (et_or (et_not (et_B (ev_isi (ev_var rfl) (.ty _) (fun _ e => ty_tup (ex_t (e1.trans e) hx)) (b := true) rfl)))
      (fun _ => et_or (et_not (et_B (ev_all (el_is (ys := (ks.map (pairB m)).map V.bl) hLC ?_)))) (fun _ => et_not (et_B (ev_call (ea_cons (ev_var rfl) ea_nil) (fun H3 e3 Q q E => ⟨a, xs, ks, rfl, ex_t (e1.trans e3) hx, hk.up (e1.trans e3), few, fun H4 e4 => q H4 e4⟩)))))) ?_) (fun z => by cases z) (fun _ H2 e2 => ?_)
    · rw [given_all, hlen, List.map_map]
      refine List.ext_getElem (by simp) fun i h1 h2 => ?_
      have hi : i < ks.length := by simpa using h1
      simp [List.getD_eq_getElem?_getD, hi]
    · have e3 : (ks.map (pairB m)).all id = true := by
        rw [List.all_map]
        exact List.all_eq_true.mpr fun p hp => pair_in ok.hi (ok.tie p hp)
      rw [e3, ok.asc]
      rfl
    · have e12 := e1.trans e2
      refine ⟨_, rfl, _, rfl, sf, C, dx, [], rfl, e12 _ _ hs, T.cl, T.nM, (by show 0 < 1000; decide), ?_⟩
      refine ⟨_, rfl, _, rfl, sf, C, dx, _, rfl, upd_same, T.cl, T.nT, (by show 1 < 1000; decide), ?_⟩
      refine k _ (fun b o hb ho => ?_) ?_
      · rw [upd_ne hb, upd_ne hb]
        exact e12 _ _ ho
      · rw [upd_same, nf_eq]
end
end My
/-! a caught exception that is kept as a value behind its except clause -/
namespace Kpt
open PySem PySem.Spec PyProof.Rows L2
/-- an exception object at a, of the class cls, its own dict d -/
def ExK (cls : Value) (d : Option Addr) (a : Addr) : HO := .ext fun h => ∃ (o : Obj) (vs : Array Value), h.get? a = some o ∧ Zc cls d o ∧ o.data = .fields vs
section
variable {X : Cx} {pins : List (Addr × Obj)} {σ : L2.St} {H : Hp} {s : Shared}
/-- a pinned exception object, younger than the frame, is tracked from now on -/
theorem track {a : Addr} {oe : Obj} {vs : Array Value} {cls : Value} {d : Option Addr} (I : Inv X ((a, oe) :: pins) σ H s) (young : X.s_0.heap.get? a = none) (hd : oe.data = .fields vs) (hz : Zc cls d oe) (hp : ∀ p ∈ X.pn ++ pins, p.1 ≠ a) :
    Inv X pins σ (upd H a (ExK cls d a)) s := by
  obtain ⟨ga, na, nL, nF, _⟩ := I.pin (a, oe) (List.mem_append.mpr (.inr List.mem_cons_self))
  have ga : s.heap.get? a = some oe := ga
  have na : H a = none := na
  have old : ∀ b u, H b = some u → b ≠ a := fun b u e z => by
    rw [z, na] at e
    cases e
  have up : ∀ {b u}, b ≠ a → H b = u → upd H a (ExK cls d a) b = u := fun {b u} hb e => by
    rw [upd_ne hb]
    exact e
  refine ⟨I.ok, I.os, I.bare, ⟨I.base.keep, I.base.slot, fun b o e n x => ?_, I.base.there, fun b xs e => ?_, fun b o u e => ?_, fun b ps e => ?_⟩, I.loc, I.cell, ?_, fun x c e => ?_, fun p hpm => ?_, fun b u e => ?_, I.len⟩
  · refine up (fun z => ?_) (I.base.free b o e n x)
    rw [z, young] at e
    cases e
  · have q := I.base.tups b xs e
    exact up (old _ _ q) q
  · have q := I.base.frzs b o u e
    exact up (old _ _ q) q
  · obtain ⟨more, q⟩ := I.base.tbls b ps e
    exact ⟨more, up (old _ _ q) q⟩
  · exact up (fun z => nL z.symm) I.free
  · refine up (fun z => ?_) (I.freeC x c e)
    obtain ⟨v, ob, h1, h2⟩ := I.cell x c e
    rw [z, ga] at h1
    cases h1
    rw [hd] at h2
    cases h2
  · obtain ⟨h1, h2, h3, h4, h5⟩ := I.pin p (by
      rcases List.mem_append.mp hpm with m | m
      · exact List.mem_append.mpr (.inl m)
      · exact List.mem_append.mpr (.inr (List.mem_cons_of_mem _ m)))
    exact ⟨h1, up (hp p hpm) h2, h3, h4, h5⟩
  · by_cases hb : b = a
    · subst hb
      rw [upd_same] at e
      cases e
      exact ⟨⟨oe, vs, ga, hz, hd⟩, ⟨oe, ga⟩, fun _ _ ⟨o, v, q, r⟩ k => ⟨o, v, k o q, r⟩⟩
    · rw [upd_ne hb] at e
      exact (I.hok b u e).stay (fun c v _ q => q) (fun c q => up (old _ _ q) q) fun c xs q => up (old _ _ q) q
end
/-- the wish of the clause: the suite ends by going on, then the object is tracked, the clause's name is gone -/
def wKeep (K : PySem.W.Frag) (N : Nat) (c : Value) (i : Nat) (ts : Addr → Value → Option Addr → TS) (Wout : WX) (D : Ends) : WX := fun cls d σ H =>
  ∃ b, PySem.W.exmOne K cls c = some b ∧ (b = true → σ.length = N → ∀ a, H a = none → ts a cls d { nx := fun σ' H' => D.nx (σ'.set i none) (upd H' a (ExK cls d a)), rt := fun _ _ => False, bk := fun _ _ => False, ct := fun _ _ => False } (σ.set i (some (.ref a))) H) ∧
    (b = false → Wout cls d σ H)
section
variable {X : Cx} {x n : Str} {c : Value} {i : Nat} {body suite : List Stmt} {b₀ : Stmt} {np pos pos' : Pos} {tb : WX → TS} {ts : Addr → Value → Option Addr → TS} {Wout : WX}
theorem ps_try_keep (hst : X.stack = X.env :: X.outer) (hfl : X.env.frame = some X.env.locals) (hex : X.ex = []) (hnd : X.N.Nodup) (hni : X.N[i]? = some n) (hkd : X.env.kindOf n = some .local) (hcl : Names X x c) (htk : Takes X Wout)
    (hbody : ∀ (W : WX) (pn : List (Addr × Obj)) (xe : Value → Shared → Prop), Takes (X.tr pn xe) W → PassesOwn (model X.prog X.w) X.A X.env xe → PSs (X.tr pn xe) body (tb W))
    (hsuite : ∀ (a : Addr) (oe : Obj) (cls : Value) (d : Option Addr) (pn : List (Addr × Obj)), Zc cls d oe → (∃ vs, oe.data = .fields vs) → PSs (X.suite a ((a, oe) :: pn)) (b₀ :: suite) (ts a cls d)) :
    PS X (.Try body [.ExceptHandler (some (.Name x np)) (some n) (b₀ :: suite) pos'] [] [] pos) (fun D σ H => tb (wKeep X.K X.N.length c i ts Wout D) D σ H) := by
  refine ⟨fun pins s σ H D I h => ?_⟩
  have okX := I.ok
  have frms : X.A.frames = some (X.env :: X.outer) := okX.frames.trans (congrArg some hst)
  refine wpAny_Try_except ?_
  let after : Value → Shared → Prop := fun e s₁ => wpAny (model X.prog X.w) X.A (noteFrame e X.env) (fun _ s₂ => wpAny (model X.prog X.w) X.A (setFlight e none) (fun _ s₃ =>
    wpAny (model X.prog X.w) X.A (handleBy e X.env [.ExceptHandler (some (.Name x np)) (some n) (b₀ :: suite) pos']) (SP X pins D) X.xe s₃) X.xe s₂) X.xe s₁
  have took : Takes (X.tr (X.pn ++ pins) after) (wKeep X.K X.N.length c i ts Wout D) := by
    rintro u s' ⟨a, B, sI, pin', σ', H', cls, d, rfl, JT, ground, upto, inair, na, os, bare, b, hb, yes, no⟩
    have J : Inv X pins σ' H' sI := JT.ofTry okX
    have air : Sky B (X.env :: X.outer) a (Zc cls d) X.env.locals s'.heap := by
      rw [← hst]
      exact inair
    show wpAny (model X.prog X.w) X.A (noteFrame (.ref a) X.env) _ _ _
    refine Sky.land Zc.steady frms hfl air fun g fly upg => ?_
    have Jg : Inv X pins σ' H' { s' with heap := g } := J.landed ground fly.1 (upto.trans upg) os bare
    obtain ⟨og, vg, gg, zg, dg⟩ := fly.there
    have noFrame : a ∉ frs (X.env :: X.outer) := fun hm => by
      obtain ⟨_, o', e', hnf⟩ := fly.2.2.1.mem hm
      rw [gg] at e'
      cases e'
      exact hnf _ dg
    have nL : a ≠ X.env.locals := fun z => noFrame (List.mem_filterMap.mpr ⟨X.env, List.mem_cons_self, by rw [hfl, z]⟩)
    have nF : a ∉ X.fs := fun hm => by
      obtain ⟨e, he, q⟩ := List.mem_filterMap.mp hm
      exact noFrame (List.mem_filterMap.mpr ⟨e, List.mem_cons_of_mem _ he, q⟩)
    have noB : B.get? a = none := fly.2.1
    have noI : sI.heap.get? a = none := by
      cases q : sI.heap.get? a with
      | none => rfl
      | some o =>
        have z := ground a o q (by rw [hst]; exact noFrame)
        rw [noB] at z
        cases z
    have young : X.s_0.heap.get? a = none := by
      cases q : X.s_0.heap.get? a with
      | none => rfl
      | some o =>
        obtain ⟨o', z⟩ := J.base.there a o q (by rw [hex]; simp)
        rw [noI] at z
        cases z
    have apart : ∀ p ∈ X.pn ++ pins, p.1 ≠ a := fun p hp z => by
      have e := (J.pin p hp).1
      rw [z, noI] at e
      cases e
    have Sg := Jg.suite gg dg na nL nF
    refine wpAny_handleBy_cons (codeAny_handlers_test ?_) (by intro q; cases q)
    have ofTy : PySem.W.Looks (model X.prog X.w) g (typeOf (.ref a)) cls := fun A Q E s k q => wpAny_typeOf_ref (k _ _ gg) (by rw [zg.1]; exact q)
    have asked := PySem.W.exm_one (M := model X.prog X.w) (Jg.kIn) ofTy hb
    have named : ∀ {Q : Value → Shared → Prop} {E : Value → Shared → Prop}, Q c { s' with heap := g } → wpAny (model X.prog X.w) (X.A.mark (some (.ref a))) (eval (.Name x np) X.env) Q E { s' with heap := g } := fun {Q E} q => by
      rcases hcl with ⟨hgl, hdg, hm | ⟨hm, hv, hnn⟩⟩
      · exact ld_glob (X := X.suite a ((a, og) :: (X.pn ++ pins))) Sg hgl hm q hdg
      · exact ld_blt (X := X.suite a ((a, og) :: (X.pn ++ pins))) Sg hgl hm hv q hnn hdg
    refine named (asked.here ?_)
    cases b with
    | true =>
      refine codeAny_handlers_suite_as ?_
      refine HandSPX.lands_againZ fly fun g2 fly2 upg2 => ?_
      have J2 : Inv X pins σ' H' { s' with heap := g2 } := J.landed ground fly2.1 ((upto.trans upg).trans upg2) os bare
      obtain ⟨o2, v2, gg2, z2, d2⟩ := fly2.there
      have S2 := J2.suite gg2 d2 na nL nF
      refine store_ok (X := X.suite a ((a, o2) :: (X.pn ++ pins))) (v := .ref a) S2 hnd hni (.inl hkd) rfl (fun s5 S5 => ?_) (.inr hkd)
      refine wpAny_mono ((hsuite a o2 cls d (X.pn ++ pins) z2 ⟨_, d2⟩).run [] s5 _ H' _ S5 (yes rfl J.len a na)) (fun f s6 out => ?_) (fun _ _ z => False.elim z)
      cases f with
      | next =>
        obtain ⟨σ6, H6, S6, q6⟩ := out
        have I6 : Inv X ((a, o2) :: pins) σ6 H6 s6 := ⟨okX, S6.os, S6.bare, S6.base, S6.loc, S6.cell, S6.free, S6.freeC, fun p hp => S6.pin p (by
          rw [List.append_nil]
          rcases List.mem_append.mp hp with m | m
          · exact List.mem_cons_of_mem _ (List.mem_append.mpr (.inl m))
          · rcases List.mem_cons.mp m with e | m
            · rw [e]
              exact List.mem_cons_self
            · exact List.mem_cons_of_mem _ (List.mem_append.mpr (.inr m))), S6.hok, S6.len⟩
        exact gone_ok I6 hnd hni hkd fun s7 J7 => ⟨_, _, track J7 young d2 z2 apart, q6⟩
      | brk =>
        obtain ⟨_, _, _, q6⟩ := out
        exact q6.elim
      | cont =>
        obtain ⟨_, _, _, q6⟩ := out
        exact q6.elim
      | ret u =>
        obtain ⟨_, _, _, _, _, q6⟩ := out
        exact q6.elim
    | false =>
      show wpAny _ X.A (handleBy (.ref a) X.env []) _ _ _
      refine wpAny_handleBy_nil ?_
      obtain ⟨_, _, _, o3, v3, T, oT, ts', g3, _, d3, h1, _⟩ := id fly
      unfold PySem.passOn
      refine wpAny_bind (wpAny_field g3 d3 h1 ?_)
      rw [if_neg (show ¬ ((Value.ref T == Value.none) = true) from by simp)]
      have off : wpAny (model X.prog X.w) X.A (setFlight (.ref a) X.env.frame) (fun _ s4 => wpAny (model X.prog X.w) X.A (throw (.ref a) : Sem Flow) (SP X pins D) X.xe s4) X.xe { s' with heap := g } := by
        rw [hfl]
        refine HandSPX.setFlight_upZ fly fun h4 hh4 up4 => wpAny_throw (htk _ _ ⟨a, B, sI, pins, σ', H', cls, d, rfl, J, ground, (upto.trans upg).trans up4, .inr (.inr ?_), na, os, bare, no rfl⟩)
        rw [hst]
        exact hh4
      first
        | exact wpAny_bind (wpAny_pure (wpAny_bind off))
        | exact wpAny_bind off
  refine wpAny_mono ((hbody (wKeep X.K X.N.length c i ts Wout D) (X.pn ++ pins) after took PassesOwn.looking).run [] s σ H D (I.toTry _) h) (fun f s1 out => ?_) (fun e s1 he => he)
  cases f with
  | next =>
    obtain ⟨σ', H', J', q⟩ := out
    exact wpAny_execs_nil ⟨σ', H', J'.ofTry okX, q⟩
  | brk =>
    obtain ⟨σ', H', J', q⟩ := out
    exact ⟨σ', H', J'.ofTry okX, q⟩
  | cont =>
    obtain ⟨σ', H', J', q⟩ := out
    exact ⟨σ', H', J'.ofTry okX, q⟩
  | ret u =>
    obtain ⟨v, σ', H', J', r, q⟩ := out
    exact ⟨v, σ', H', J'.ofTry okX, r, q⟩
end
end Kpt
/-! errors: raised by need_net, caught by _law_caught, held -/
namespace My
open PySem PySem.Spec PyProof.Rows L2 Evl Kpt LamX
/-- an own exception class without an __init__ of its own, at C -/
structure ExF (K : PySem.W.Frag) (mg : Str → Option Value) (x : Str) (C : Addr) : Prop where
  g : mg x = some (.ref C)
  ex : PySem.W.excIn K C He.veBase "ValueError.__new__" = true
  kp : PySem.W.keepIn K (.ref C) = true
  sb : PySem.W.subIn K (.ref C) (.type "BaseException") = some true
  ty : PySem.W.typeIn K (.ref C) = some (.type "type")
theorem ps_raiseP {X : Cx} {W : WX} {x m : Str} {C : Addr} {j : Nat} {p p2 pos pos' : Pos} (F : ExF X.K X.mg x C) (hc : X.calm = true) (tk : Takes X W) (hg : Gl X x) (hdb : (x == ("__debug__" : Str)) = false := by decide) :
    PS X (.Raise (some (.Call (.Name x p) [.Constant (.str m) j p2] [] pos)) none pos') (fun _ σ H => W (.ref C) none σ H) :=
  ps_raise hc tk (pmk_own PySem.F.excBase_ValueError F.ex F.g F.kp (raises_own F.sb F.ty) hg hdb)
/-- what a def of this text lets out is told by its wish E alone -/
abbrev WxE (E : XK) : WX := fun cls d _ H => E cls d H
/-! ### isinstance of a held error -/
def rIsK (K : PySem.W.Frag) : List V → Hp → VK → Prop := fun xs H Q => ∃ (a C : Addr) (c : V) (cv : Value) (b : Bool), xs = [.ref a, c] ∧ H a = some (ExK (.ref C) none a) ∧ ExcC K C ∧ ClsV c cv ∧ PySem.W.kitOne K (.ref C) cv = some b ∧ Q (.bl b) H
theorem call_isK {X : Cx} : CallR X (.builtin "isinstance") (rIsK X.K) := by
  intro pins s σ H xs us Q I r h
  obtain ⟨a, C, c, cv, b, rfl, ea, T, k, e, q⟩ := h
  obtain ⟨u1, u2, rfl, r1, r2⟩ := vals2 r
  have e2 := k.eq r2
  subst e2
  obtain rfl : u1 = Value.ref a := r1
  obtain ⟨oe, vs, ho, hz, hd⟩ := (show ObjOk X.prog X.w H s.heap a (ExK (.ref C) none a) from I.hok a _ ea).1
  have J : PySem.W.InstAt s.heap a oe C none := ⟨ho, hz.1, by unfold PySem.W.notCls; rw [hd] <;> rfl, by rw [hz.2]; trivial⟩
  exact PySem.W.kia_one (PySem.W.handS_kitx_exc T.hg T.hk T.hs T.hd T.ha T.hn T.ht T.hm) I.kIn J e (fun z => nomatch z) fun tk => ⟨.bl b, H, I.tok tk, rfl, q⟩
/-! ### need_net -/
section
variable {P : Program} {w : World} {K : PySem.W.Frag} {mg : Str → Option Value} {base : Heap}
/-- x is no instance of the class at C -/
def NoInst (K : PySem.W.Frag) (C : Addr) (H : Hp) (x : V) : Prop := ∃ t, TyX K H x t ∧ PySem.W.kitOne K t (.ref C) = some false
/-- what isinstance asks of the class itself -/
structure InsF (K : PySem.W.Frag) (C : Addr) : Prop where
  ha : PySem.W.findIn K (.ref C) "__class__" = some (some (.builtin "object.__class__"))
  hn : PySem.W.specialIn K (.builtin "object.__class__") "__get__" = some (some (.builtin "getset_descriptor.__get__"))
  ht : PySem.W.takesIn K (.builtin "object.__class__") = some true
  hm : PySem.W.mroIn K C (.type "object") = some true
theorem ty_net {C : Addr} {H : Hp} {x : V} {m : Int} {ks : List (Int × Int)} (cl : Cls K C) (I : InsF K C) (h : NetV K C H x m ks) : TyX K H x (.ref C) := by
  obtain ⟨s, dx, a, xs, rfl, h2, _⟩ := h
  exact .base (.ins h2 cl I.ha I.hn I.ht I.hm)
theorem kit_self {C : Addr} : PySem.W.kitOne K (.ref C) (.ref C) = some true := by
  unfold PySem.W.kitOne
  rw [if_pos (beq_self_eq_true _)]
def spNeed (K : PySem.W.Frag) (C CE : Addr) : Sp := fun vs H Q E => ∃ x, vs = [x] ∧ ((∃ m ks, NetV K C H x m ks ∧ RetV .non H Q) ∨ ((∀ H', Ex H H' → NoInst K C H' x) ∧ ∀ H', Ex H H' → E (.ref CE) none H'))
theorem scNe : FnScope ["net"] ["net"] (defScope s_need_net) := ⟨rfl, rfl, rfl, by decide +kernel, rfl, by decide +kernel, by decide +kernel⟩
theorem ok_need {f C fI CE : Addr} {fd : FuncData} (F : Fun K "need_net" "need_net" s_need_net f fd) (T : NtF K mg C fI) (I : InsF K C) (X : ExF K mg "BadNet" CE) (gi : mg "isinstance" = none) : FnOk P w K mg base (L2.CX P w) 1 f fd ["net"] (spNeed K C CE) := by
  refine F.okX scNe (fun vs H Q E h => ?_) (fun cdv A outer s H vs Q E hr h => ?_)
  · obtain ⟨x, rfl, _⟩ := h
    rfl
  · obtain ⟨x, rfl, h⟩ := h
    refine ⟨_, pss_one (ps_if (pt_not (pt_val (pe_callB call_isi (by rfl) gi boot_isi (pa_cons (pv 0) (pa_cons (pe_glob (v := .ref C) (by rfl) T.g rfl) pa_nil))))) (pss_one (ps_raiseP (W := WxE E) X rfl (takes_of rfl rfl rfl rfl) (by rfl))) pss_nil), ?_⟩
    rcases h with ⟨m, ks, hx, k⟩ | ⟨hx, k⟩
    · refine s_when (b := false) (et_not (et_B (ev_isi (ev_var rfl) (.own _) (fun _ e => ty_net T.cl I (hx.up e)) kit_self))) (fun z => by cases z) (fun _ H1 e1 => k.go e1)
    · have hev : Ev (tCB (rIsi K) (tCons (tVar 0) (tCons (tC (.ref C)) tNil))) [some x] H (.bl false) := fun H1 e Q q => ⟨_, rfl, by
        obtain ⟨t, h1, h2⟩ := hx H1 e
        exact ⟨x, _, t, _, false, rfl, .own _, h1, h2, q H1 (Ex.refl _)⟩⟩
      exact s_when (b := true) (et_not (et_B hev)) (fun _ H1 e1 => k H1 e1) (fun z => by cases z)
end
/-! ### _law_caught -/
def TKeep (K : PySem.W.Frag) (DE : Addr) : (XK → Hp → VK → Prop) → Hp → VK → Prop := fun tl H Q =>
  tl (fun cls d H' => PySem.W.exmOne K cls (.ref DE) = some true ∧ ∀ a, H' a = none → Q (.ref a) (upd H' a (ExK cls d a))) H (fun _ H' => ∃ v, (some (some V.non) : Option (Option V)) = some (some v) ∧ Q v H')
theorem scCa : FnScope ["work", "caught", "error"] ["work"] (defScope s_law_caught) := ⟨rfl, rfl, rfl, by decide +kernel, rfl, by decide +kernel, by decide +kernel⟩
theorem len3 {σ : L2.St} (h : σ.length = 3) : ∃ x y z, σ = [x, y, z] := by
  match σ, h with
  | [x, y, z], _ => exact ⟨x, y, z, rfl⟩
theorem caught_gives {X : Cx} {q : Str} {g DE : Addr} {cdg : Value} (hme : X.mg "DrawError" = some (.ref DE)) :
    GivesTo X ["work", "caught", "error"] "_law_caught" (defScope s_law_caught) g cdg (defBody s_law_caught) "work" q (TKeep X.K DE) := by
  intro f c' s H Q tl act hc h
  refine ⟨_, pss_cons (ps_set (i := 1) scCa.nd rfl (Or.inl rfl) pe_non) (pss_cons (ps_try_keep (X := (cxOf C8.CX0 X.prog X.w X.K X.mg X.base ["work", "caught", "error"] "_law_caught" (defScope s_law_caught) g cdg X.A X.stack s H C8.E0).nox) (c := .ref DE) (i := 2)
      (tb := fun W D σ H => ∃ Ech : XK, (∀ cls d σ' H', Ech cls d H' → W cls d σ' H') ∧ σ[0]? = some (some (.ref f)) ∧ H c' = some (CodeO c' q) ∧ tl Ech H fun _ H' => D.nx σ H')
      rfl rfl rfl scCa.nd rfl rfl ⟨by rfl, by decide, .inl hme⟩ LamX.takes0 (fun W pn xe tk _ => ?_) (fun a oe cls d pn _ _ => pss_one (ps_set (i := 1) scCa.nd rfl (Or.inl rfl) (pv 2)))) (pss_one (ps_ret (pv 1)))), ?_⟩
  · refine ⟨fun pins s' σ H' D I h' => ?_⟩
    obtain ⟨Ech, hW, h1, h2, h3⟩ := h'
    exact (pss_one (ps_expr (act W pn xe Ech _ _ tk hW))).run pins s' σ H' D I ⟨h1, h2, h3⟩
  · refine ⟨_, fun cls d σ' H' hE => ?_, rfl, hc, h⟩
    obtain ⟨e1, e2⟩ := hE
    refine ⟨true, e1, fun _ hl a ha => ?_, fun z => by cases z⟩
    obtain ⟨x, y, z, rfl⟩ := len3 hl
    exact ⟨_, rfl, _, rfl, e2 a ha⟩
end My
/-! calls by keywords alone -/
namespace My
open PySem PySem.Spec PyProof.Rows L2 Evl
def tCallK0 (sp : Sp) (gV : List V → List V → List V) (E : XK) (tk : TA) : TE := fun σ H Q => tk σ H fun zs H2 => sp (gV [] zs) H2 Q E
theorem pe_callK0 {X : Cx} {CX : CXT} {k : Nat} {f : Addr} {fd : FuncData} {ps ks : List Str} {sp : Sp} {E : XK} {x : Str} {p pos : Pos} {kws : List Keyword} {tk : TA} {g : List Value → List Value → List Value} {gV : List V → List V → List V}
    (F : FnOk X.prog X.w X.K X.mg X.base CX k f fd ps sp) (hr : Room k X.A) (hg : Gl X x) (hm : X.mg x = some (.ref f)) (hk : PySem.W.keepIn X.K (.ref f) = true) (hb : KBinds X.K fd ps ks g gV) (hx : Passes CX X E) (hkw : PK X kws tk)
    (hall : (backToKw pos (keywordEach kws X.env)).all (·.1.isSome) = true := by rfl) (hks : (backToKw pos (keywordEach kws X.env)).filterMap (·.1) = ks := by rfl) (hdb : (x == ("__debug__" : Str)) = false := by decide)
    (hpl : ((backTo pos (starEach [] X.env)).any (·.1) || (backToKw pos (keywordEach kws X.env)).any (·.1.isNone)) = false := by rfl) : PE X (.Call (.Name x p) [] kws pos) (tCallK0 sp gV E tk) := by
  refine ⟨fun pins s σ H Q I h => wpAny_Call_Name_kw (ld_glob I hg hm ?_ hdb)⟩
  refine PySem.W.callWith_KW0 (h₀ := X.base) I.ok.mod.kin hk hall (thn (hkw.run pos pins s σ H _ I h) fun ws s2 ⟨zs, H2, I2, rz, q2⟩ => ⟨I2.kIn, ?_⟩) hpl
  rw [hks]
  exact run_fnk (us := []) (vs := []) F hr hb hx I2 .nil rz q2
/-- two keywords, the second parameter's first -/
def g2 {α : Type} : List α → List α → List α
  | [], [p, n] => [n, p]
  | _, _ => []
theorem kb2 {K : PySem.W.Frag} {x qual : Str} {st : Stmt} {f : Addr} {fd : FuncData} {a b : Str} (F : Fun K x qual st f fd)
    (h : ∀ (kV doc pm : Value) (an : Option Addr) (cdv ct u v : Value), bindArgs (PySem.W.fnOf x qual (defArgs st) (defBody st) (defScope st) .none kV doc pm an cdv ct) ⟨[], [(b, v), (a, u)]⟩ = pure [(a, u), (b, v)]) : KBinds K fd [a, b] [b, a] g2 g2 := by
  obtain ⟨oc, od, kV, doc, pm, an, cdv, ct, osl, rfl, lk, hcd⟩ := F.ex
  refine ⟨fun s us ws X hl => ?_, fun {vs us zs ws} r1 r2 => ?_⟩
  · match us, ws, hl with
    | [], [v, u], _ => exact BindsTo.of_eq (h kV doc pm an cdv ct u v)
    | [], [], hl => cases hl
    | [], [_], hl => cases hl
    | [], _ :: _ :: _ :: _, hl => cases hl
    | _ :: _, _, hl => cases hl
  · cases r1 with
    | nil =>
      cases r2 with
      | nil => exact .nil
      | cons h1 r =>
        cases r with
        | nil => exact .nil
        | cons h2 r =>
          cases r with
          | nil => exact .cons h2 (.cons h1 .nil)
          | cons _ _ => exact .nil
    | cons _ _ => exact .nil
end My
/-! words that all laws use: what stays, calls, lambdas handed to _law_caught -/
namespace My
open PySem PySem.Spec PyProof.Rows L2 Evl LamX Kpt
theorem Kp.tup {H H' : Hp} {d g c : Addr} {s : Src} {b : Addr} {ys : List V} (k : Kp d g H H') (st : StX H d g c s) (h : H b = some (.tup ys)) : H' b = some (.tup ys) :=
  k b _ (ne_of h st.1 (by intro q; cases q)) (ne_of h st.2.1 (by intro q; cases q)) h
theorem sqt_kp {K : PySem.W.Frag} {H H' : Hp} {d g c a : Addr} {s : Src} {xs : List V} (st : StX H d g c s) (k : Kp d g H H') (h : SqT K H a xs) : SqT K H' a xs := by
  rcases h with (h | ⟨o, h⟩) | h
  · exact .inl (.inl (k.tup st h))
  · refine .inl (.inr ⟨o, k a _ (fun z => ?_) (fun z => ?_) h⟩)
    · rw [z, st.1] at h
      cases h
    · rw [z, st.2.1] at h
      cases h
  · exact .inr h
theorem room65 {k : Nat} {A : Around} (r : Room k A) : A.units + 65 < cLine := by have := r.un; omega
/-- an own object is written -/
theorem StX.own {H : Hp} {d g c l : Addr} {s : Src} {o : HO} (h : StX H d g c s) (n1 : l ≠ d) (n2 : l ≠ g) (n3 : l ≠ c) : StX (upd H l o) d g c s :=
  ⟨(upd_ne n1.symm).trans h.1, (upd_ne n2.symm).trans h.2.1, (upd_ne n3.symm).trans h.2.2.1, h.2.2.2⟩
theorem Kp.own {H H' : Hp} {d g l : Addr} {o : HO} (k : Kp d g H H') (hl : H l = none) : Kp d g H (upd H' l o) := fun b x h1 h2 h => (upd_ne (ne_of_none h hl)).trans (k b x h1 h2 h)
theorem PrL.kpl {H H' : Hp} {l : Addr} {ys : List V} (k : Kp l l H H') (hl : H l = some (.lst ys)) : ∀ {xs ps}, PrL H xs ps → PrL H' xs ps
  | _, _, .nil => .nil
  | _, _, .cons h r => .cons (h.kp k (fun _ z => by rw [hl] at z; cases z) (fun _ z => by rw [hl] at z; cases z)) (PrL.kpl k hl r)
/-- what isinstance of built-in values answers for the class at C -/
def NoB (K : PySem.W.Frag) (C : Addr) : Bool := (["NoneType", "int", "bool", "tuple", "list", "dict", "str"] : List String).all fun t => PySem.W.kitOne K (.type t) (.ref C) == some false
theorem NoB.ans {K : PySem.W.Frag} {C : Addr} (h : NoB K C = true) {t : String} (ht : t ∈ (["NoneType", "int", "bool", "tuple", "list", "dict", "str"] : List String)) : PySem.W.kitOne K (.type t) (.ref C) = some false := by
  have := List.all_eq_true.mp h t ht
  exact eq_of_beq this
section
variable {K : PySem.W.Frag} {H H' : Hp}
theorem ExtN.tup (e : ExtN H H') {a : Addr} {xs : List V} (h : H a = some (.tup xs)) : H' a = some (.tup xs) := e _ _ h fun _ z => by cases z
theorem ExtN.lst (e : ExtN H H') {a : Addr} {xs : List V} (h : H a = some (.lst xs)) : H' a = some (.lst xs) := e _ _ h fun _ z => by cases z
theorem sqt_xn (e : ExtN H H') {a : Addr} {xs : List V} (h : SqT K H a xs) : SqT K H' a xs := by
  rcases h with (h | ⟨o, h⟩) | h
  · exact .inl (.inl (ExtN.tup e h))
  · exact .inl (.inr ⟨o, e _ _ h fun _ z => by cases z⟩)
  · exact .inr h
theorem PairV.xn (e : ExtN H H') {x : V} {p : Int × Int} (h : PairV H x p) : PairV H' x p := let ⟨t, h1, h2⟩ := h; ⟨t, h1, ExtN.tup e h2⟩
theorem PrL.xn (e : ExtN H H') : ∀ {xs ps}, PrL H xs ps → PrL H' xs ps
  | _, _, .nil => .nil
  | _, _, .cons h r => .cons (PairV.xn e h) (PrL.xn e r)
theorem StX.xn (e : ExtN H H') {d g c : Addr} {s : Src} (h : StX H d g c s) : StX H' d g c s :=
  ⟨e _ _ h.1 fun _ z => (by cases z), ExtN.lst e h.2.1, ExtN.lst e h.2.2.1, h.2.2.2⟩
theorem NetV.xn (e : ExtN H H') {C : Addr} {x : V} {m : Int} {ks : List (Int × Int)} (h : NetV K C H x m ks) : NetV K C H' x m ks :=
  let ⟨s, dx, a, xs, h1, h2, h3, h4⟩ := h
  ⟨s, dx, a, xs, h1, e _ _ h2 fun _ z => (by cases z), sqt_xn e h3, PrL.xn e h4⟩
theorem NetV.kp {d g c : Addr} {s : Src} (st : StX H d g c s) (k : Kp d g H H') {C : Addr} {x : V} {m : Int} {ks : List (Int × Int)} (h : NetV K C H x m ks) : NetV K C H' x m ks :=
  let ⟨s, dx, a, xs, h1, h2, h3, h4⟩ := h
  ⟨s, dx, a, xs, h1, k _ _ (ne_of h2 st.1 (by intro q; cases q)) (ne_of h2 st.2.1 (by intro q; cases q)) h2, sqt_kp st k h3, PrL.kp st k h4⟩
theorem codeO_nd {c : Addr} {q : Str} {o : HO} (h : ∀ p, o ≠ .ext p) : CodeO c q ≠ o := fun z => h _ z.symm
theorem tabs_kp {T : List (Addr × Str)} {d g c : Addr} {s : Src} (st : StX H d g c s) (k : Kp d g H H') (h : Tabs T H) : Tabs T H' := fun p hp => by
  obtain ⟨ps, h1, h2, h3⟩ := h p hp
  refine ⟨ps, k _ _ (ne_of h1 st.1 (by intro q; cases q)) (ne_of h1 st.2.1 (by intro q; cases q)) h1, h2, fun pos cv hc => ?_⟩
  obtain ⟨c', e1, e2⟩ := h3 pos cv hc
  exact ⟨c', e1, k _ _ (ne_of e2 st.1 (by intro q; cases q)) (ne_of e2 st.2.1 (by intro q; cases q)) e2⟩
end
/-- if not isinstance(_law_caught(lambda: ..), X): the lambda raises X -/
theorem s_caught {K : PySem.W.Frag} {T : List (Addr × Str)} {DE CE : Addr} {t : XK → TE} {tu : TS} {D : Ends} {σ : L2.St} {H : Hp} (R : Hp → Hp → Prop) (hT : Tabs T H) (hx : PySem.W.exmOne K (.ref CE) (.ref DE) = some true) (hc : ExcC K CE)
    (ht : ∀ H1, ExtN H H1 → Tabs T H1 → ∀ (E : XK) (Q : VK), (∀ H2, R H1 H2 → E (.ref CE) none H2) → t E σ H1 Q)
    (k : ∀ H1 H2 H3, ExtN H H1 → Tabs T H1 → R H1 H2 → Ex H2 H3 → D.nx σ H3) :
    tIfS (tNot (tB (tCB (rIsK K) (tCons (tLam T (TKeep K DE) t) (tCons (tC (.ref CE)) tNil))))) tu tNext D σ H := by
  refine ⟨hT, fun H1 e1 T1 => ht H1 e1 T1 _ _ fun H2 r => ⟨hx, fun a ha => ?_⟩⟩
  refine ⟨a, CE, .ref CE, .ref CE, true, rfl, upd_same, hc, .own _, kit_self, true, rfl, ?_⟩
  exact k H1 H2 _ e1 T1 r (Ex.new ha)
/-- a def that may be called by its name -/
structure CalX (P : Program) (w : World) (K : PySem.W.Frag) (mg : Str → Option Value) (base : Heap) (CX : CXT) (k : Nat) (x : Str) (ps : List Str) (sp : Sp) (f : Addr) (fd : FuncData) : Prop where
  ok : FnOk P w K mg base CX k f fd ps sp
  g : mg x = some (.ref f)
  kp : PySem.W.keepIn K (.ref f) = true
  b : Binds K fd ps []
theorem iteB {A B : Prop} {b : Bool} (h1 : b = true → A) (h2 : b = false → B) : if b = true then A else B := by
  cases b with
  | true => exact iteT (h1 rfl)
  | false => exact iteF (h2 rfl)
theorem ev_callK0 {sp : Sp} {gV : List V → List V → List V} {zs : List V} {E : XK} {tk : TA} {σ : L2.St} {H : Hp} {z : V} (h : EvA tk σ H zs) (hs : SpV sp (gV [] zs) H z) : Ev (tCallK0 sp gV E tk) σ H z := fun H1 e Q q => h H1 e _ fun H2 e2 => hs H2 (e.trans e2) Q (fun H3 e3 => q H3 (e2.trans e3)) E
theorem ev_absI {σ : L2.St} {H : Hp} {te : TE} {i : Int} (h : Ev te σ H (.int i)) : Ev (tCB (fun xs H Q => ∃ i, xs = [V.int i] ∧ Q (.int (if i < 0 then -i else i)) H) (tCons te tNil)) σ H (.int (if i < 0 then -i else i)) := ev_cb (ea_cons h ea_nil) fun H1 _ Q q => ⟨i, rfl, q H1 (Ex.refl _)⟩
theorem rv_isN {H : Hp} {v : V} : RV (fun x y H Q => y = V.non ∧ Q (.bl (decide (x = V.non))) H) v .non H (.bl (decide (v = .non))) := fun H1 _ Q q => ⟨rfl, q H1 (Ex.refl _)⟩
theorem rv_isNot {H : Hp} {a b : Bool} : RV (fun x y H Q => ∃ a b, x = V.bl a ∧ y = V.bl b ∧ Q (.bl (!decide (a = b))) H) (.bl a) (.bl b) H (.bl (!decide (a = b))) := fun H1 _ Q q => ⟨a, b, rfl, rfl, q H1 (Ex.refl _)⟩
end My
/-! lists of new pairs; _law_nt_ties -/
namespace My
open PySem PySem.Spec PyProof.Rows L2 Evl
/-- a new list of pairs -/
def EvP (te : TE) (σ : L2.St) (H : Hp) (ks : List (Int × Int)) : Prop := ∀ H1, Ex H H1 → ∀ Q : VK, (∀ p xs H2, H1 p = none → Ex H1 H2 → H2 p = some (.lst xs) → PrL H2 xs ks → Q (.ref p) H2) → te σ H1 Q
theorem PairV.upd {H : Hp} {x : V} {p : Int × Int} {D : Addr} {o : HO} (hD : ∀ ys, H D ≠ some (.tup ys)) (h : PairV H x p) : PairV (upd H D o) x p := by
  obtain ⟨t, rfl, ht⟩ := h
  refine ⟨t, rfl, ?_⟩
  rw [upd_ne (fun z => hD _ (z ▸ ht))]
  exact ht
theorem PrL.upd {H : Hp} {D : Addr} {o : HO} (hD : ∀ ys, H D ≠ some (.tup ys)) : ∀ {xs ps}, PrL H xs ps → PrL (upd H D o) xs ps
  | _, _, .nil => .nil
  | _, _, .cons h r => .cons (h.upd hD) (PrL.upd hD r)
def givenP (n : Nat) (f : Nat → Bool) (k : Nat → Int × Int) : List (Int × Int) := ((List.range n).filter f).map k
theorem givenP_yes {n : Nat} {f : Nat → Bool} {k : Nat → Int × Int} (h : f n = true) : givenP (n + 1) f k = givenP n f k ++ [k n] := by
  unfold givenP
  rw [List.range_succ, List.filter_append, List.map_append, List.filter_cons, if_pos h]
  rfl
theorem givenP_no {n : Nat} {f : Nat → Bool} {k : Nat → Int × Int} (h : f n = false) : givenP (n + 1) f k = givenP n f k := by
  unfold givenP
  rw [List.range_succ, List.filter_append, List.map_append, List.filter_cons, if_neg (by rw [h]; exact Bool.false_ne_true)]
  simp
theorem givenP_len (n : Nat) (f : Nat → Bool) (k : Nat → Int × Int) : (givenP n f k).length ≤ n := by
  unfold givenP
  rw [List.length_map]
  exact Nat.le_trans (List.length_filter_le ..) (by rw [List.length_range]; exact Nat.le_refl _)
theorem ep_lcW {σ : L2.St} {H : Hp} {wi : TI} {g : TG} {tt : TT} {te : TE} {vs : List Nat} {n : Nat} {Y : Nat → Hp → V → Hp → Prop} (f : Nat → Bool) (k : Nat → Int × Int) (hn : n ≤ 40000)
    (hw : ∀ H1, Ex H H1 → ∀ R : It → Hp → Prop, (∀ J H2, Ex H1 H2 → Walk J n (fun H' => Ex H2 H') Y → R J H2) → wi σ H1 R)
    (hs : ∀ i x H1 H2, i < n → Ex H H1 → Y i H1 x H2 → Ex H1 H2 ∧ ∃ σ2, (∀ R : L2.St → Hp → Prop, R σ2 H2 → g x (wipe σ vs) H2 R) ∧ wipe σ2 vs = wipe σ vs ∧ EvT tt σ2 H (f i) ∧ (f i = true → EvU te σ2 H [.int (k i).1, .int (k i).2])) :
    EvP (tLc wi g tt te vs) σ H (givenP n f k) := fun H0 e Q q => hw H0 e _ fun J H2 e2 w Dl hD =>
  lc_it w (fun i H' => H2 Dl = none ∧ Ex H2 H' ∧ ∃ xs, H' Dl = some (.lst xs) ∧ PrL H' xs (givenP i f k)) ⟨hD, Ex.new hD, [], upd_same, .nil⟩ (fun i H' _ p => p.2.1) (fun i x H3 H4 hi p y => by
    obtain ⟨p1, p2, xs, p3, p4⟩ := p
    obtain ⟨e4, σ2, hg, hwp, ht, he⟩ := hs i x H3 H4 hi ((e.trans e2).trans p2) y
    have eb := ((e.trans e2).trans p2).trans e4
    refine hg _ ⟨hwp, ht H4 eb _ fun H5 e5 => ?_⟩
    cases hf : f i with
    | false =>
      rw [if_neg Bool.false_ne_true]
      refine ⟨p1, (p2.trans e4).trans e5, xs, e5 _ _ (e4 _ _ p3), ?_⟩
      rw [givenP_no hf]
      exact (p4.up e4).up e5
    | true =>
      rw [if_pos rfl]
      refine he hf H5 (eb.trans e5) _ fun t H6 ht6 e6 hp6 => ?_
      have hx6 : H6 Dl = some (.lst xs) := e6 _ _ (e5 _ _ (e4 _ _ p3))
      have hl := p4.len
      have hg2 := givenP_len i f k
      refine ⟨xs, hx6, sz_lt (by omega), p1, Ex.mut (((p2.trans e4).trans e5).trans e6) p1, xs ++ [.ref t], upd_same, ?_⟩
      rw [givenP_yes hf]
      exact PrL.upd (fun ys z => by rw [hx6] at z; cases z) ((((p4.up e4).up e5).up e6).app (.cons ⟨t, rfl, hp6⟩ .nil))) (fun H' ⟨p1, p2, xs, p3, p4⟩ => q Dl xs H' (fresh_back e2 p1) (e2.trans p2) p3 p4)
theorem ep_cat {σ : L2.St} {H : Hp} {ta tb : TE} {l : Addr} {xs : List V} {ps qs : List (Int × Int)} (ha : Ev ta σ H (.ref l)) (hl : H l = some (.lst xs)) (hp : PrL H xs ps) (hb : EvP tb σ H qs) (hz : ps.length + qs.length ≤ 100000) : EvP (tOp rCat ta tb) σ H (ps ++ qs) := fun H1 e Q q =>
  ha H1 e _ fun H2 e2 => hb H2 (e.trans e2) _ fun p ys H3 hp3 e3 h3 k3 => ⟨l, p, xs, ys, rfl, rfl, e3 _ _ (e2 _ _ (e _ _ hl)), h3, by rw [hp.len, k3.len]; exact sz_of hz, fun r hr =>
    q r (xs ++ ys) _ (fresh_back (e2.trans e3) hr) ((e2.trans e3).trans (Ex.new hr)) upd_same (((hp.up ((e.trans e2).trans e3)).app k3).up (Ex.new hr))⟩
theorem q_asgP {σ : L2.St} {H : Hp} {te : TE} {tz : TS} {D : Ends} {i : Nat} {ks : List (Int × Int)} (h : EvP te σ H ks) (k : ∀ p xs H1, H p = none → Ex H H1 → H1 p = some (.lst xs) → PrL H1 xs ks → tz D (σ.set i (some (.ref p))) H1) : tSeq (tAsg te (gName i)) tz D σ H :=
  h H (Ex.refl H) _ fun p xs H1 hp e h1 h2 => k p xs H1 hp e h1 h2
theorem s_asgP {σ : L2.St} {H : Hp} {te : TE} {D : Ends} {i : Nat} {ks : List (Int × Int)} (h : EvP te σ H ks) (k : ∀ p xs H1, H p = none → Ex H H1 → H1 p = some (.lst xs) → PrL H1 xs ks → D.nx (σ.set i (some (.ref p))) H1) : tAsg te (gName i) D σ H :=
  h H (Ex.refl H) _ fun p xs H1 hp e h1 h2 => k p xs H1 hp e h1 h2
/-! ### all pairs of points -/
def fromP (m one : Nat) : List (Int × Int) := givenP (m - one - 1) (fun _ => true) fun i => ((one : Int), (one : Int) + 1 + (i : Int))
def allP (m : Nat) : Nat → List (Int × Int)
  | 0 => []
  | n + 1 => allP m n ++ fromP m n
theorem mem_fromP {m one : Nat} {p : Int × Int} : p ∈ fromP m one ↔ p.1 = one ∧ (one : Int) < p.2 ∧ p.2 < m := by
  unfold fromP givenP
  rw [List.filter_eq_self.mpr fun _ _ => rfl, List.mem_map]
  constructor
  · rintro ⟨i, hi, rfl⟩
    have := List.mem_range.mp hi
    refine ⟨rfl, ?_, ?_⟩
    · show (one : Int) < (one : Int) + 1 + (i : Int)
      omega
    · show (one : Int) + 1 + (i : Int) < m
      omega
  · rintro ⟨h1, h2, h3⟩
    refine ⟨(p.2 - one - 1).toNat, List.mem_range.mpr (by omega), ?_⟩
    obtain ⟨a, b⟩ := p
    have h1 : a = (one : Int) := h1
    have h2 : (one : Int) < b := h2
    have e : (one : Int) + 1 + ((b - one - 1).toNat : Int) = b := by omega
    show ((one : Int), (one : Int) + 1 + ((b - one - 1).toNat : Int)) = (a, b)
    rw [e, h1]
theorem nodup_fromP (m one : Nat) : (fromP m one).Nodup := by
  unfold fromP givenP
  rw [List.filter_eq_self.mpr fun _ _ => rfl]
  refine List.pairwise_map.mpr (List.Pairwise.imp (fun {a b} h e => h ?_) List.nodup_range)
  have e2 : (one : Int) + 1 + (a : Int) = (one : Int) + 1 + (b : Int) := congrArg Prod.snd e
  omega
theorem mem_allP {m : Nat} {p : Int × Int} : ∀ {n : Nat}, p ∈ allP m n ↔ 0 ≤ p.1 ∧ p.1 < n ∧ p.1 < p.2 ∧ p.2 < m
  | 0 => by
    constructor
    · intro h
      cases h
    · rintro ⟨h1, h2, _⟩
      have h2 : p.1 < ((0 : Nat) : Int) := h2
      omega
  | n + 1 => by
    show p ∈ allP m n ++ fromP m n ↔ _
    rw [List.mem_append, mem_allP, mem_fromP]
    omega
theorem nodup_allP (m : Nat) : ∀ n, (allP m n).Nodup
  | 0 => List.nodup_nil
  | n + 1 => by
    show (allP m n ++ fromP m n).Nodup
    refine List.nodup_append.mpr ⟨nodup_allP m n, nodup_fromP m n, fun a ha b hb e => ?_⟩
    subst e
    have h1 := (mem_allP.mp ha).2.1
    have h2 := (mem_fromP.mp hb).1
    omega
theorem len_allP (m : Nat) : ∀ n, (allP m n).length ≤ n * m
  | 0 => by simp [allP]
  | n + 1 => by
    show (allP m n ++ fromP m n).length ≤ _
    rw [List.length_append, Nat.succ_mul]
    have h1 := len_allP m n
    have h2 := givenP_len (m - n - 1) (fun _ => true) fun i => ((n : Int), (n : Int) + 1 + (i : Int))
    unfold fromP
    omega
/-! ### sorted pairs -/
theorem asc_of : ∀ {ks : List (Int × Int)}, ks.Pairwise (fun p q => ltB p q = true) → asc ks = true
  | [], _ => rfl
  | [_], _ => rfl
  | p :: q :: r, h => by
    obtain ⟨h1, h2⟩ := List.pairwise_cons.mp h
    show (ltB p q && asc (q :: r)) = true
    rw [h1 q List.mem_cons_self, asc_of h2]
    rfl
theorem ltB_iff {p q : Int × Int} : ltB p q = true ↔ p.1 < q.1 ∨ (p.1 = q.1 ∧ p.2 < q.2) := SrtO.lexB_iff
theorem ltB_no {p q : Int × Int} : ltB p q = false ↔ ¬ (p.1 < q.1 ∨ (p.1 = q.1 ∧ p.2 < q.2)) := SrtO.lexB_no
theorem asc_sorted : ∀ {ks : List (Int × Int)}, ks.Pairwise (fun p q => ltB q p = false) → ks.Nodup → ks.Pairwise (fun p q => ltB p q = true) := by
  intro ks h1 h2
  refine List.Pairwise.imp (fun {p q} h => ?_) (h1.and h2)
  obtain ⟨a, b⟩ := h
  have a' := ltB_no.mp a
  refine ltB_iff.mpr ?_
  by_cases e1 : p.1 < q.1
  · exact .inl e1
  · refine .inr ⟨by omega, ?_⟩
    have e2 : p.1 = q.1 := by omega
    by_cases e3 : p.2 < q.2
    · exact e3
    · refine absurd ?_ b
      obtain ⟨x, y⟩ := p
      obtain ⟨z, w⟩ := q
      have e2 : x = z := e2
      have e3 : ¬ y < w := e3
      have a' : ¬ (z < x ∨ (z = x ∧ w < y)) := a'
      have e4 : y = w := by omega
      rw [e2, e4]
structure TyB (mg : Str → Option Value) : Prop where
  rng : mg "range" = none
  tup : mg "tuple" = none
  srt : mg "sorted" = none
theorem few_allP : ∀ m ≤ 24, (allP m m).length ≤ 276 := by decide +kernel
section
variable {P : Program} {w : World} {K : PySem.W.Frag} {mg : Str → Option Value} {base : Heap}
def spTies (K : PySem.W.Frag) : Sp := fun vs H Q _ => ∃ (d g c : Addr) (s : Src) (m most : Int), vs = [.ref d, .int m, .int most] ∧ StX H d g c s ∧ 0 ≤ s.turn ∧ s.turn < 2 ^ 898 ∧ 1 ≤ m ∧ m ≤ 24 ∧ 0 ≤ most ∧ most < 100000 ∧
  ∀ (H' : Hp) (s' : Src) (a : Addr) (xs : List V) (ks : List (Int × Int)), StX H' d g c s' → s'.cs = s.cs → s.turn ≤ s'.turn → s'.turn ≤ s.turn + 2000 → Kp d g H H' → H a = none → H' a = some (.tup xs) → PrL H' xs ks → OkNet m ks → (ks.length : Int) ≤ most → Q (.ref a) H'
theorem scTy : FnScope ["state", "many", "most", "some", "one", "other"] ["state", "many", "most"] (defScope s_law_nt_ties) := ⟨rfl, rfl, rfl, by decide +kernel, rfl, by decide +kernel, by decide +kernel⟩
theorem ok_ties {f fM fD fB : Addr} {fd fdM fdD fdB : FuncData} (F : Fun K "_law_nt_ties" "_law_nt_ties" s_law_nt_ties f fd) (B : DrB mg) (M : MxB mg) (T : TyB mg) (FB : Fun K "_law_blended" "_law_blended" sBlended fB fdB) (mgB : mg "_law_blended" = some (.ref fB))
    (FD : Fun K "_law_draw" "_law_draw" sDraw fD fdD) (mgD : mg "_law_draw" = some (.ref fD)) (FM : Fun K "_law_mixed" "_law_mixed" s_law_mixed fM fdM) (mgM : mg "_law_mixed" = some (.ref fM)) : FnOk P w K mg base CX0 4 f fd ["state", "many", "most"] (spTies K) := by
  have GD : FnOk P w K mg base CX0 2 fD fdD ["state", "size_here"] spDraw := ok_draw FD B FB mgB
  have bD : Binds K fdD ["state", "size_here"] [] := FD.binds (ps := ["state", "size_here"]) fun _ _ _ _ _ _ us hl => match us, hl with | [_, _], _ => rfl
  have GM : FnOk P w K mg base CX0 3 fM fdM ["state", "several"] (spMixed K) := ok_mixed FM B M FB mgB FD mgD
  have bM : Binds K fdM ["state", "several"] [] := FM.binds (ps := ["state", "several"]) fun _ _ _ _ _ _ us hl => match us, hl with | [_, _], _ => rfl
  refine F.ok scTy (fun vs H Q E h => ?_) (fun cdv A outer s H vs Q E hr h => ?_)
  · obtain ⟨d, g, c, s0, m, most, rfl, _⟩ := h
    rfl
  · obtain ⟨d, g, c, s0, m, most, rfl, hst, t0, t1, m1, m2, o0, o1, k⟩ := h
    have hr2 := hr.mono (show 2 ≤ 3 by decide)
    refine ⟨_, pss_cons (ps_set (i := 3) scTy.nd rfl (Or.inl rfl) (pe_lst pa_nil))
      (pss_cons (ps_for PassesOwn.never rfl (pi_range1 (by rfl) T.rng (pa_cons (pv 1) pa_nil)) (pg_name (i := 4) scTy.nd rfl (Or.inr rfl))
        (pss_one (ps_set (i := 3) scTy.nd rfl (Or.inl rfl) (pe_op op_cat (pv 3) (pe_lc (own := [("other", 5)]) (g := gName 5) rfl scTy.nd (pi_range2 (by rfl) T.rng (pa_cons (pe_op op_add (pv 4) pe_int) (pa_cons (pv 1) pa_nil))) (blkOk_by (N := ["state", "many", "most", "some", "one", "other"]) (sc := defScope s_law_nt_ties) (by decide +kernel))
          (fun _ _ _ _ _ => pg_name (i := 5) scTy.nd rfl (Or.inl rfl)) (fun _ _ _ _ _ => pts_nil) (fun _ _ _ _ _ => pe_tup (pa_cons (pe_var (i := 4) rfl (Or.inr (Or.inl (by rfl)))) (pa_cons (pv 5) pa_nil))))))))
      (pss_one (ps_ret (pe_callTy call_tuple_of (by rfl) T.tup boot_tupT (pa_cons (pe_callB cr_sortedPO (by rfl) T.srt (by decide +kernel) (pa_cons (pe_slice sl_list (pe_call GM hr (by rfl) mgM FM.kp bM .nil pass0 (pa_cons (pv 0) (pa_cons (pv 3) pa_nil)))
        po_none (po_some (pe_call GD hr2 (by rfl) mgD FD.kp bD .nil pass0 (pa_cons (pv 0) (pa_cons (pe_op op_add (pv 2) pe_int) pa_nil))))) pa_nil)) pa_nil))))), ?_⟩
    obtain ⟨M0, hM0⟩ : ∃ M0 : Nat, m = (M0 : Int) := ⟨m.toNat, by omega⟩
    subst hM0
    refine q_asgP (ks := []) (fun H1 _ Q q => ⟨Nat.zero_le _, fun p hp => q p [] _ hp (Ex.new hp) upd_same .nil⟩) fun l0 xs0 H1 _ e1 hl0 hk0 => ?_
    refine q_forR1 (ea_cons (ev_var rfl) ea_nil) (by omega) (fun i σ' H' => ∃ (l : Addr) (xs : List V) (v4 v5 : Option V), σ' = [some (.ref d), some (.int (M0 : Int)), some (.int most), some (.ref l), v4, v5] ∧ Ex H H' ∧ H' l = some (.lst xs) ∧ PrL H' xs (allP M0 i))
      (fun H2 e2 => ⟨l0, xs0, none, none, rfl, e1.trans e2, e2 _ _ hl0, hk0.up e2⟩) ?_ ?_
    · rintro i σ' H2 hi ⟨l, xs, v4, v5, rfl, e2, hl, hk⟩
      have hlen := len_allP M0 i
      have hi' : i < 24 := by omega
      have hfew : i * M0 ≤ 24 * 24 := Nat.mul_le_mul (by omega) (by omega)
      have hfl := givenP_len (M0 - i - 1) (fun _ => true) fun t => ((i : Int), (i : Int) + 1 + (t : Int))
      refine s_asgP (ks := allP M0 (i + 1)) (ep_cat (ev_var rfl) hl hk (qs := fromP M0 i) (ep_lcW (n := M0 - i - 1) (Y := YFn fun t => .int ((i : Int) + 1 + (t : Int))) _ _ (by omega) (fun H3 e3 R hR => ?_) (fun t x H3 H4 ht e3 y => ?_)) (by unfold fromP; omega)) fun p ys H3 _ e3 hp hk3 => ⟨p, ys, _, _, rfl, e2.trans e3, hp, hk3⟩
      · refine ⟨_, rfl, _, _, rfl, rfl, _, rfl, (i : Int) + 1, (M0 : Int), rfl, ⟨by omega, by omega, by omega, by omega⟩, ?_⟩
        rw [show ((M0 : Int) - ((i : Int) + 1)).toNat = M0 - i - 1 by omega]
        exact hR _ H3 (Ex.refl _) (Walk.mono walk_range (fun _ _ => trivial) fun _ _ _ _ _ _ y => y)
      · obtain ⟨rfl, rfl⟩ := y
        exact ⟨Ex.refl _, _, fun R hR => hR, rfl, fun H5 _ Q q => q H5 (Ex.refl _), fun _ => eu_tup (ea_cons (ev_var rfl) (ea_cons (ev_var rfl) ea_nil)) (by show 2 ≤ 100000; decide)⟩
    · rintro σ' H2 ⟨l, xs, v4, v5, rfl, e2, hl, hk⟩
      rw [show ((M0 : Int)).toNat = M0 from rfl] at hk
      have hlen := few_allP M0 (by omega)
      have hxl := hk.len
      have st2 := hst.up e2
      refine ⟨_, rfl, _, rfl, d, g, c, l, s0, xs, rfl, st2, t0, by omega, Or.inl (SqL.of hl), fun x hx => ?_, by omega, fun H3 s3 p ys st3 hcs3 tlo thi kp3 hpN hpd hpg hp perm => ?_⟩
      · obtain ⟨q, _, hq⟩ := hk.mem x hx
        exact .inr ⟨q, hq⟩
      refine ⟨_, rfl, _, rfl, _, _, rfl, rfl, d, g, c, s3, most + 1, rfl, st3, by omega, by omega, by omega, by omega, fun H4 st4 k4 => ⟨_, rfl, ?_⟩⟩
      obtain ⟨v0, v1⟩ := val_in s3 (show 0 < most + 1 by omega)
      obtain ⟨j, hj⟩ : ∃ j : Nat, s3.val (most + 1) = (j : Int) := ⟨(s3.val (most + 1)).toNat, by omega⟩
      have hp4 := k4 p _ hpd hpg hp
      have hk3 : PrL H3 xs (allP M0 M0) := PrL.kp st2 kp3 hk
      have hk4 : PrL H4 xs (allP M0 M0) := PrL.kp st3 k4 hk3
      refine ⟨p, ys, rfl, SqL.of hp4, fun q hq => ?_⟩
      rw [hj, cut_to]
      have e5 : Ex H4 (upd H4 q (.lst (ys.take j))) := Ex.new hq
      have hk5 := hk4.up e5
      have q5 : upd H4 q (.lst (ys.take j)) q = some (.lst (ys.take j)) := upd_same
      generalize upd H4 q (.lst (ys.take j)) = H5 at e5 hk5 q5 ⊢
      have py : ∀ y ∈ ys, ∃ r, PairV H5 y r := fun y hy => by
        obtain ⟨r, _, hr⟩ := hk5.mem y (perm.mem_iff.mp hy)
        exact ⟨r, hr⟩
      have pt : ∀ y ∈ ys.take j, ∃ r, PairV H5 y r := fun y hy => py y (List.mem_of_mem_take hy)
      refine ⟨q, ys.take j, prOf H5, rfl, SqL.of q5, fun x hx => ?_, fun zs r hs hb hr => ?_⟩
      · obtain ⟨r, t, rfl, ht⟩ := pt x hx
        exact ⟨t, rfl, by rw [prOf_eq ⟨t, rfl, ht⟩]; exact ht⟩
      refine ⟨r, zs, rfl, .inl ⟨SqL.of upd_same, fun a ha => ?_⟩⟩
      have e6 : Ex H5 (upd H5 r (.lst zs)) := Ex.new hr
      have e7 : Ex (upd H5 r (.lst zs)) (upd (upd H5 r (.lst zs)) a (.tup zs)) := Ex.new ha
      have pz : ∀ y ∈ zs, ∃ r, PairV H5 y r := fun y hy => pt y (hb.perm.mem_iff.mp hy)
      have hz := PrL.of pz
      have ky := hk5.map
      have pm2 : (ys.map (prOf H5)).Perm (allP M0 M0) := by
        rw [← ky]
        exact perm.map _
      have pm3 : (zs.map (prOf H5)).Perm ((ys.map (prOf H5)).take j) := by
        rw [← List.map_take]
        exact hb.perm.map _
      have hin : ∀ p ∈ zs.map (prOf H5), p ∈ allP M0 M0 := fun p hp => pm2.mem_iff.mp (List.mem_of_mem_take (pm3.mem_iff.mp hp))
      have nd : (zs.map (prOf H5)).Nodup := pm3.nodup_iff.mpr ((List.take_sublist j _).nodup (pm2.nodup_iff.mpr (nodup_allP M0 M0)))
      have hlz : (zs.map (prOf H5)).length ≤ j ∧ (zs.map (prOf H5)).length ≤ 276 := by
        rw [pm3.length_eq, List.length_take, pm2.length_eq]
        omega
      have kpa : Kp d g H (upd (upd H5 r (.lst zs)) a (.tup zs)) := ((((Kp.of e2).trans kp3).trans k4).trans (Kp.of e5)).trans (Kp.of (e6.trans e7))
      obtain ⟨n1, n2⟩ := next_turn s3 (most + 1)
      have aN : H a = none := by
        cases z : H a with
        | none => rfl
        | some o =>
          by_cases z1 : a = d
          · have z2 := (e6.trans (Ex.refl _)) d _ (e5 _ _ st4.1)
            rw [← z1, ha] at z2
            cases z2
          · by_cases z3 : a = g
            · have z2 := (e6.trans (Ex.refl _)) g _ (e5 _ _ st4.2.1)
              rw [← z3, ha] at z2
              cases z2
            · have z2 := e6 a _ (e5 _ _ (k4 a _ z1 z3 (kp3 a _ z1 z3 (e2 a _ z))))
              rw [ha] at z2
              cases z2
      refine k _ (s3.next (most + 1)) a zs (zs.map (prOf H5)) ((st4.up e5).up (e6.trans e7)) (by rw [next_cs, hcs3]) (by omega) (by omega) kpa aN upd_same (hz.up (e6.trans e7)) ⟨by omega, by omega, fun p hp => ?_, asc_of (asc_sorted (List.pairwise_map.mpr hs) nd), by omega⟩ (by omega)
      obtain ⟨h1, h2, h3, h4⟩ := mem_allP.mp (hin p hp)
      exact ⟨h1, h3, h4⟩
end
end My
/-! sorted of tuples of ints, of pairs -/
namespace SrtO
open PySem PyProof.Rows Srt
section
variable {prog : Program} {w : World} {A : Around} {E : Value → Shared → Prop} {s : Shared}
theorem collect_tup {l : Addr} {vs : List Value} {Q : List Value → Shared → Prop} (hl : s.heap.IsTuple l vs.toArray)
    (h : Q vs { s with heap := (s.heap.push (seqObj "list" #[] 0)).update s.heap.objs.size (Obj.mapSeq (· ++ vs.toArray)) }) (hsz : vs.length ≤ sizeLine := by size_fits) :
    wpAny (model prog w) A (collect (.ref l)) Q E s := by
  obtain ⟨o, ho, hc, n, hd⟩ := id hl
  unfold collect
  refine wpAny_bind (wpAny_runValue (codeAny_builtin entry_proto_collect' ?_))
  show wpAny _ _ (do again (.builtin "list.__iadd__" ⟨[← newList [], .ref l], []⟩)) _ _ s
  refine wpAny_bind (wpAny_newList (wpAny_pure ⟨Code.quiet_builtin _ (by decide +kernel), codeAny_builtin entry_list_iadd' ?_⟩))
  show wpAny _ _ (Builtin.List.listExtendWith (.ref s.heap.objs.size) (.ref l) (.ref s.heap.objs.size)) _ _ { s with heap := s.heap.push (seqObj "list" #[] 0) }
  unfold Builtin.List.listExtendWith
  have ho' : (s.heap.push (seqObj "list" #[] 0)).get? l = some o := Heap.get?_push_of_some _ ho
  refine wpAny_bind (wpAny_typeOf (T := "tuple") ⟨o, ho', hc⟩ ?_)
  have ht : (Value.type "tuple" == Value.type "tuple") = true := by rfl
  rw [if_pos (by rw [ht]; simp)]
  refine wpAny_bind (listItems_at ho' hd ?_)
  refine wpAny_bind (listItems_at (xs := #[]) (n := 0) (Heap.get?_push_size _ rfl) rfl ?_)
  rw [if_neg (by simp)]
  refine wpAny_bind (listUpdate_at (xs := #[]) (n := 0) (Heap.get?_push_size _ rfl) rfl ?_ (Nat.zero_le _) (by show (#[] ++ vs.toArray).size ≤ sizeLine + 1; simp only [Array.size_append, List.size_toArray, List.length_nil]; omega))
  refine wpAny_pure ?_
  show wpAny (model prog w) A (do
      let o ← load s.heap.objs.size
      match o.data with
      | .seq xs _ => pure xs.toList
      | _ => unsupported "internal:collect") Q E { s with heap := (s.heap.push (seqObj "list" #[] 0)).update s.heap.objs.size (Obj.mapSeq (· ++ vs.toArray)) }
  refine wpAny_bind (wpAny_load (get?_update_seq (Heap.get?_push_size _ rfl) _) ?_)
  show wpAny _ _ (pure ((#[] : Array Value) ++ vs.toArray).toList) Q E _
  rw [show ((#[] : Array Value) ++ vs.toArray).toList = vs by simp]
  exact wpAny_pure h
theorem sorted_ordT {l : Addr} {vs : List Value} {ltv : Value → Value → Bool} {Q : Value → Shared → Prop} (O : Swo ltv) (hl : s.heap.IsTuple l vs.toArray) (hz : vs.length ≤ sizeLine)
    (hS : 2 ≤ vs.length → ∀ (h₁ : Heap) (a : Addr), h₁.get? a = some (seqObj "list" vs.toArray 0) → (∀ b o, s.heap.get? b = some o → b ≠ a ∧ h₁.get? b = some o) → SortableO prog w A.in1.in1 { s with heap := h₁ } a vs ltv)
    (h : ∀ out : List Value, Srtd ltv out → Stb ltv out vs → Q (.ref (s.heap.objs.size + 1)) { s with heap := sortedAll s.heap vs out.toArray }) :
    wpAny (model prog w) A (call (.builtin "sorted") [.ref l]) Q E s := by
  refine Calls.call_function_entry kind_sorted plain_sorted entry_sorted (args_sorted1 _) ?_
  unfold Builtin.«sorted»
  refine wpAny_bind (m := checkCount "sorted" 1 1 _) (wpAny_pure ?_)
  refine wpAny_bind (collect_tup hl ?_ hz)
  refine wpAny_bind (wpAny_newList ?_ hz)
  have hsz : ((s.heap.push (seqObj "list" #[] 0)).update s.heap.objs.size (Obj.mapSeq (· ++ vs.toArray))).objs.size = s.heap.objs.size + 1 := by
    rw [Heap.size_update, size_push']
  have hoL : (((s.heap.push (seqObj "list" #[] 0)).update s.heap.objs.size (Obj.mapSeq (· ++ vs.toArray))).push (seqObj "list" vs.toArray 0)).get? (s.heap.objs.size + 1) = some (seqObj "list" vs.toArray 0) := by
    rw [← hsz]; exact Heap.get?_push_size _ rfl
  have keep : ∀ b o, s.heap.get? b = some o → b ≠ s.heap.objs.size + 1 ∧ (((s.heap.push (seqObj "list" #[] 0)).update s.heap.objs.size (Obj.mapSeq (· ++ vs.toArray))).push (seqObj "list" vs.toArray 0)).get? b = some o := fun b o q => by
    have hlt : b < s.heap.objs.size := Heap.lt_size q
    refine ⟨Nat.ne_of_lt (Nat.lt_succ_of_lt hlt), Heap.get?_push_of_some _ ?_⟩
    rw [Heap.get?_update_ne _ _ _ _ (Nat.ne_of_lt hlt)]
    exact Heap.get?_push_of_some _ q
  show wpAny _ _ _ _ _ { s with heap := ((s.heap.push (seqObj "list" #[] 0)).update s.heap.objs.size (Obj.mapSeq (· ++ vs.toArray))).push (seqObj "list" vs.toArray 0) }
  rw [hsz]
  refine wpAny_bind (wpAny_holding (wpAny_call_entry slot_list_sort ⟨_, hoL, rfl⟩ entry_list_sort (list_sort_ord O hoL hz (fun h2 => hS h2 _ _ hoL keep) fun out hs hb => ⟨_, rfl, ?_⟩) (args_list_sort _)))
  exact wpAny_pure ⟨_, rfl, h out hs hb⟩
theorem sorted_pairsT {l : Addr} {vs : List Value} {k : Value → Int × Int} {Q : Value → Shared → Prop} (hl : s.heap.IsTuple l vs.toArray) (hz : vs.length ≤ sizeLine) (hp : ∀ v ∈ vs, IsPair s.heap v (k v).1 (k v).2)
    (h : ∀ (h' : Heap) (d : Addr) (out : List Value), Srtd (fun v u => lexB (k v) (k u)) out → Stb (fun v u => lexB (k v) (k u)) out vs → (∀ b o, s.heap.get? b = some o → h'.get? b = some o) → s.heap.objs.size ≤ d → (∃ n, h'.get? d = some (seqObj "list" out.toArray n)) → Q (.ref d) { s with heap := h' }) :
    wpAny (model prog w) A (call (.builtin "sorted") [.ref l]) Q E s := by
  refine sorted_ordT (swo_lex k) hl hz (fun h2 h₁ a ha kk => ?_) fun out hs hb => ?_
  · refine pairs_sortableO (s := { s with heap := h₁ }) (by omega) (fun v hm => (hp v hm).keeps fun b o e _ => (kk b o e).2) fun o e => ?_
    have e' : some o = some (seqObj "list" vs.toArray 0) := e.symm.trans ha
    cases e'
    intro c
    exact absurd (Value.type.inj c) (by decide)
  · exact h _ _ out hs hb (fun b o e => sortedAll_old e) (Nat.le_succ _) (sortedAll_at s.heap vs out.toArray)
end
end SrtO
namespace L2
open PySem PySem.Spec PyProof.Rows
/-- sorted(xs), xs a list or tuple of pairs of ints -/
def rSortedPA (K : PySem.W.Frag) : List V → Hp → VK → Prop := fun vs H Q => ∃ (a : Addr) (xs : List V) (k : V → Int × Int), vs = [V.ref a] ∧ (SqL K H a xs ∨ SqT K H a xs) ∧ (∀ x ∈ xs, ∃ t, x = V.ref t ∧ H t = some (.tup [.int (k x).1, .int (k x).2])) ∧
  ∀ ys p, SrtO.Srtd (ltP k) ys → SrtO.Stb (ltP k) ys xs → H p = none → Q (.ref p) (upd H p (.lst ys))
/-- sorted(xs), xs a list or tuple of ints -/
def rSortedIA (K : PySem.W.Frag) : List V → Hp → VK → Prop := fun vs H Q => ∃ (a : Addr) (ns : List Int), vs = [V.ref a] ∧ (SqL K H a (ns.map V.int) ∨ SqT K H a (ns.map V.int)) ∧
  ∀ (ns' : List Int) (p : Addr), ns'.Perm ns → ns'.Pairwise (· ≤ ·) → H p = none → Q (.ref p) (upd H p (.lst (ns'.map V.int)))
section
variable {X : Cx}
theorem cr_sortedPA : CallR X (.builtin "sorted") (rSortedPA X.K) := by
  intro pins s σ H vs us Q I r h
  obtain ⟨a, xs, k, rfl, hs, hx, q⟩ := h
  rcases hs with hs | hs
  · exact cr_sortedPO pins s σ H _ us Q I r ⟨a, xs, k, rfl, hs, hx, q⟩
  obtain ⟨its, rv, hl, hz⟩ := I.tuple hs
  obtain ⟨u, rfl, ru⟩ := vals1 r
  obtain rfl : u = Value.ref a := ru
  obtain ⟨e1, e2⟩ := refs_back rv fun x m => by
    obtain ⟨t, e, _⟩ := hx x m
    exact ⟨t, e⟩
  refine SrtO.sorted_pairsT (k := fun u => k (backV u)) hl (by rw [← rv.length]; exact hz) (fun v hv => ?_) fun h' d out h1 h2 kp hd hn => ?_
  · obtain ⟨t, rfl⟩ := e2 v hv
    have hm : V.ref t ∈ xs := by rw [e1]; exact List.mem_map.mpr ⟨_, hv, rfl⟩
    obtain ⟨t', e, ht⟩ := hx _ hm
    cases e
    obtain ⟨_, its2, r2, o, ho, hc, n, hd⟩ := I.hok _ _ ht
    obtain ⟨u1, u2, rfl, ri, rj⟩ := vals2 r2
    obtain ⟨t1, rfl⟩ := ri
    obtain ⟨t2, rfl⟩ := rj
    exact ⟨t, o, t1, t2, n, rfl, ho, hc, hd⟩
  · have h3 : ∀ u ∈ out, ∃ a, u = Value.ref a := fun u hu => e2 u (h2.perm.mem_iff.mp hu)
    obtain ⟨n, hn⟩ := hn
    have hb : SrtO.Stb (ltP k) (out.map backV) xs := by
      rw [e1]
      exact SrtO.Stb.map (ltP_swo k) backV h2
    refine ⟨.ref d, upd H d (.lst (out.map backV)), I.laid (t' := s.toks) kp hd ⟨?_, out, n, vals_back h3, hn⟩, rfl, q _ d (SrtO.srtd_map h1) hb (I.hok.fresh hd)⟩
    rw [hb.len]
    exact hz
theorem cr_sortedIA : CallR X (.builtin "sorted") (rSortedIA X.K) := by
  intro pins s σ H vs us Q I r h
  obtain ⟨a, ns, rfl, hs, q⟩ := h
  rcases hs with hs | hs
  · exact cr_sortedI pins s σ H _ us Q I r ⟨a, ns, rfl, hs, q⟩
  obtain ⟨its, rv, hl, hz⟩ := I.tuple hs
  rw [Vals.ref1 r]
  have hi := rv.ints
  refine SrtO.sorted_ordT SrtO.swo_int hl (by rw [← rv.length]; exact hz) (fun h2 h₁ a' _ _ => SrtO.ints_sortable hi h2) fun out h1 h2 => ?_
  obtain ⟨k1, k2, k3⟩ := SrtO.ints_out hi h1 h2
  obtain ⟨ep, he'⟩ := PyProof.Rows.sortedAll_at s.heap its out.toArray
  have hlen : ((out.map SrtO.iv).map V.int).length ≤ sizeLine := by
    rw [List.length_map, k2.length_eq]
    rw [List.length_map] at hz
    exact hz
  exact ⟨.ref _, upd H (s.heap.objs.size + 1) (.lst ((out.map SrtO.iv).map V.int)), I.laid (t' := s.toks) (fun _ _ => PyProof.Rows.sortedAll_old) (Nat.le_succ _) ⟨hlen, out, ep, vals_of_ints k1, he'⟩, rfl, q _ _ k2 k3 (I.hok.fresh (Nat.le_succ _))⟩
end
end L2
/-! more words by data: sorted, in, lists that are written -/
namespace My
open PySem PySem.Spec PyProof.Rows L2 Evl
/-! ### what is sorted -/
def srtI (ns : List Int) : List Int := ns.mergeSort fun a b => decide (a ≤ b)
theorem srtI_perm (ns : List Int) : (srtI ns).Perm ns := List.mergeSort_perm ns _
theorem srtI_asc (ns : List Int) : (srtI ns).Pairwise (· ≤ ·) := by
  have h := List.pairwise_mergeSort (le := fun a b : Int => decide (a ≤ b)) (fun a b c h1 h2 => by
    have h1 := of_decide_eq_true h1
    have h2 := of_decide_eq_true h2
    exact decide_eq_true (Int.le_trans h1 h2)) (fun a b => by
    rcases Int.le_total a b with h | h
    · simp [h]
    · simp [h]) ns
  exact h.imp fun h => of_decide_eq_true h
theorem srtI_uniq {ms ns : List Int} (p : ms.Perm ns) (h : ms.Pairwise (· ≤ ·)) : ms = srtI ns :=
  List.Perm.eq_of_pairwise (le := (· ≤ ·)) (fun _ _ _ _ h1 h2 => Int.le_antisymm h1 h2) h (srtI_asc ns) (p.trans (srtI_perm ns).symm)
def srtP (ks : List (Int × Int)) : List (Int × Int) := ks.mergeSort fun p q => !ltB q p
theorem srtP_perm (ks : List (Int × Int)) : (srtP ks).Perm ks := List.mergeSort_perm ks _
theorem srtP_asc (ks : List (Int × Int)) : (srtP ks).Pairwise fun p q => ltB q p = false := by
  have h := List.pairwise_mergeSort (le := fun p q : Int × Int => !ltB q p) (fun a b c h1 h2 => by
    have h1 := ltB_no.mp (Bool.not_eq_true' _ ▸ h1)
    have h2 := ltB_no.mp (Bool.not_eq_true' _ ▸ h2)
    have h3 : ltB c a = false := ltB_no.mpr (by omega)
    show (!ltB c a) = true
    rw [h3]
    rfl) (fun a b => by
    show (!ltB b a || !ltB a b) = true
    cases e1 : ltB b a with
    | false => rfl
    | true =>
      have e1 := ltB_iff.mp e1
      have e2 : ltB a b = false := ltB_no.mpr (by omega)
      rw [e2]
      rfl) ks
  exact h.imp fun {p q} h => by
    cases e : ltB q p with
    | false => rfl
    | true => rw [e] at h; cases h
theorem srtP_uniq {ls ks : List (Int × Int)} (p : ls.Perm ks) (h : ls.Pairwise fun p q => ltB q p = false) : ls = srtP ks :=
  List.Perm.eq_of_pairwise (le := fun p q => ltB q p = false) (fun a b _ _ h1 h2 => by
    have h1 := ltB_no.mp h1
    have h2 := ltB_no.mp h2
    obtain ⟨a1, a2⟩ := a
    obtain ⟨b1, b2⟩ := b
    have h1 : ¬ (b1 < a1 ∨ (b1 = a1 ∧ b2 < a2)) := h1
    have h2 : ¬ (a1 < b1 ∨ (a1 = b1 ∧ a2 < b2)) := h2
    have e1 : a1 = b1 := by omega
    have e2 : a2 = b2 := by omega
    rw [e1, e2]) h (srtP_asc ks) (p.trans (srtP_perm ks).symm)
theorem asc_pw : ∀ {ks : List (Int × Int)}, asc ks = true → ks.Pairwise fun p q => ltB p q = true
  | [], _ => .nil
  | [_], _ => List.pairwise_singleton _ _
  | p :: q :: r, h => by
    have h : (ltB p q && asc (q :: r)) = true := h
    rw [Bool.and_eq_true] at h
    have ih := asc_pw h.2
    refine List.pairwise_cons.mpr ⟨fun z hz => ?_, ih⟩
    rcases List.mem_cons.mp hz with e | hz
    · rw [e]; exact h.1
    · have h1 := ltB_iff.mp h.1
      have h2 := ltB_iff.mp ((List.pairwise_cons.mp ih).1 z hz)
      exact ltB_iff.mpr (by omega)
theorem asc_ge {ks : List (Int × Int)} (h : asc ks = true) : ks.Pairwise fun p q => ltB q p = false := (asc_pw h).imp fun {p q} h => by
  have h := ltB_iff.mp h
  exact ltB_no.mpr (by omega)
theorem asc_nd {ks : List (Int × Int)} (h : asc ks = true) : ks.Nodup := (asc_pw h).imp fun {p q} h e => by
  have h := ltB_iff.mp h
  subst e
  omega
theorem asc_srt {ks : List (Int × Int)} (h : ks.Nodup) : asc (srtP ks) = true := asc_of (asc_sorted (srtP_asc ks) ((srtP_perm ks).nodup_iff.mpr h))
theorem srtP_of_asc {ks : List (Int × Int)} (h : asc ks = true) : srtP ks = ks := (srtP_uniq (List.Perm.refl _) (asc_ge h)).symm
theorem srtP_congr {ls ks : List (Int × Int)} (p : ls.Perm ks) : srtP ls = srtP ks := srtP_uniq ((srtP_perm ls).trans p) (srtP_asc ls)
/-! ### what is new in a heap -/
/-- the part B of H, and what is new in H' -/
def grown (B H H' : Hp) : Hp := fun a => match H a with
  | none => (match H' a with
    | some (.tbl _) => none
    | o => o)
  | some _ => B a
theorem grown_new {B H H' : Hp} {a : Addr} {o : HO} (h : H a = none) (h' : H' a = some o) (ht : ∀ ps, o ≠ .tbl ps) : grown B H H' a = some o := by
  unfold grown
  rw [h, h']
  cases o <;> first | rfl | exact absurd rfl (ht _)
theorem grown_old {B H H' : Hp} {a : Addr} (h : H a ≠ none) : grown B H H' a = B a := by
  unfold grown
  cases e : H a with
  | none => exact absurd e h
  | some o => rfl
theorem Gr.grown {B H H' : Hp} (s : Ex B H) (e : Ex H H') : Gr B H (grown B H H') H' := by
  refine ⟨fun a o h => ?_, fun a o h => ?_, e, fun a h1 h2 => ?_, fun a ps h => ?_⟩
  · rw [grown_old (by rw [s a o h]; simp)]
    exact h
  · by_cases z : H a = none
    · unfold My.grown at h
      rw [z] at h
      cases q : H' a with
      | none => rw [q] at h; cases h
      | some u =>
        rw [q] at h
        cases u <;> first | exact h | cases h
    · rw [grown_old z] at h
      exact e _ _ (s _ _ h)
  · rw [grown_old h2]
    exact h1
  · by_cases z : H a = none
    · unfold My.grown at h
      rw [z] at h
      cases q : H' a with
      | none => rw [q] at h; cases h
      | some u =>
        rw [q] at h
        cases u <;> cases h
    · rwa [grown_old z] at h
section
variable {K : PySem.W.Frag} {σ : L2.St} {B : Hp} {te ta tb : TE} {d e : PyData} {ds es : List PyData}
theorem en_of_N {Q : Prop} (h : Q) : Q := h
/-- sorted(ints) -/
theorem en_sortI {ns : List Int} (h : EvT' K te σ B (ns.map .int) ∨ EvD K te σ B (.list (ns.map .int)) ∨ EvD K te σ B (.tuple (ns.map .int))) : EvN K (tCB (rSortedIA K) (tCons te tNil)) σ B ((srtI ns).map .int) := fun B1 H1 e s Q q => by
  have fin : ∀ (l : Addr) (B2 H2 : Hp), Gr B1 H1 B2 H2 → (SqL K H2 l (ns.map V.int) ∨ SqT K H2 l (ns.map V.int)) → rSortedIA K [.ref l] H2 Q := fun l B2 H2 g hs =>
    ⟨l, ns, rfl, hs, fun ms p hp hs hn => by
      rw [srtI_uniq hp hs]
      exact q p _ B2 _ (g.own (none_of g.h hn) (none_of g.s hn)) (none_of g.h hn) (none_of g.s hn) upd_same (DqAll.ints _)⟩
  rcases h with h | h | h
  · exact h B1 H1 e s _ fun l xs B2 H2 g hl hx => by
      rw [hx.ints_eq] at hl
      exact fin _ B2 H2 g (.inl (SqL.of hl))
  · exact h B1 H1 e s _ fun v B2 H2 g hv => by
      cases hv with
      | lst hs hx =>
        rw [hx.ints_eq] at hs
        exact fin _ B2 H2 g (.inl (ex_l g.s hs))
  · exact h B1 H1 e s _ fun v B2 H2 g hv => by
      cases hv with
      | tup hs hx =>
        rw [hx.ints_eq] at hs
        exact fin _ B2 H2 g (.inr (ex_t g.s hs))
/-- l.append(e), l an own list beside the part -/
theorem s_appD {H : Hp} {l : Addr} {xs : List V} {D : Ends} (hl : H l = some (.lst xs)) (hb : B l = none) (s : Ex B H) (ha : Ev ta σ B (.ref l)) (h : EvD K te σ B d) (hz : xs.length < 100000)
    (k : ∀ v B1 H1, Gr B H B1 H1 → B1 l = none → Dq K B1 v d → D.nx σ (upd H1 l (.lst (xs ++ [v])))) : tDrop (tBM K "list" rAppend ta (tCons te tNil)) D σ H := ha H s _ fun H1 e1 =>
  ⟨Or.inl ⟨rfl, xs, sq_of (e1 l _ hl)⟩, h B H1 (Ex.refl _) (s.trans e1) _ fun v B2 H2 g hv => by
    have g0 : Gr B H B2 H2 := (Gr.of s e1).trans g
    have n2 := g0.n l hb (by rw [hl]; exact fun z => by cases z)
    exact ⟨l, xs, v, rfl, rfl, g0.h l _ hl, sz_lt hz, k v B2 H2 g0 n2 hv⟩⟩
end
/-! ### x in xs, xs a tuple -/
section
variable {X : Cx}
def rInDT (K : PySem.W.Frag) : R2 := fun x y H Q => ∃ d ds, Dp K H x d ∧ Dp K H y (.tuple ds) ∧ SeqAt.shaped d = true ∧ SeqAt.shaped (.tuple ds) = true ∧ Q (.bl (ds.any fun z => PyData.eqv z d)) H
def rNotInDT (K : PySem.W.Frag) : R2 := fun x y H Q => ∃ d ds, Dp K H x d ∧ Dp K H y (.tuple ds) ∧ SeqAt.shaped d = true ∧ SeqAt.shaped (.tuple ds) = true ∧ Q (.bl (!ds.any fun z => PyData.eqv z d)) H
theorem op_inDT (hu : X.A.units + 65 < cLine) : OpR X (compareOp .In) (rInDT X.K) := by
  intro pins s σ H x y v u Q I rx ry h
  obtain ⟨d, ds, hd, he, sd, se, q⟩ := h
  obtain ⟨as, r1⟩ := Dp.reads I d x v hd rx
  obtain ⟨bs, r2⟩ := Dp.reads I (.tuple ds) y u he ry
  exact SeqAt.in_tuple_reads r2 r1 (SeqAt.canLay_of_shaped se) (SeqAt.canLay_of_shaped sd) (room_in_shaped sd hu) ⟨.bl _, H, I, rfl, q⟩
theorem op_notInDT (hu : X.A.units + 65 < cLine) : OpR X (compareOp .NotIn) (rNotInDT X.K) := by
  intro pins s σ H x y v u Q I rx ry h
  obtain ⟨d, ds, hd, he, sd, se, q⟩ := h
  obtain ⟨as, r1⟩ := Dp.reads I d x v hd rx
  obtain ⟨bs, r2⟩ := Dp.reads I (.tuple ds) y u he ry
  exact SeqAt.notIn_tuple_reads r2 r1 (SeqAt.canLay_of_shaped se) (SeqAt.canLay_of_shaped sd) (room_in_shaped sd hu) ⟨.bl _, H, I, rfl, q⟩
end
theorem eqv_int (a b : Int) : PyData.eqv (.int a) (.int b) = decide (a = b) := by
  unfold PyData.eqv
  by_cases h : a = b <;> simp [h]
theorem eqv_pr (p q : Int × Int) : PyData.eqv (prD p) (prD q) = decide (p = q) := by
  obtain ⟨a, b⟩ := p
  obtain ⟨c, d⟩ := q
  show PyData.eqv (.tuple [.int a, .int b]) (.tuple [.int c, .int d]) = _
  simp only [PyData.eqv, PyData.eqvAll]
  by_cases h1 : a = c <;> by_cases h2 : b = d <;> simp [h1, h2, Prod.ext_iff]
theorem any_pr (ks : List (Int × Int)) (p : Int × Int) : ((ks.map prD).any fun z => PyData.eqv z (prD p)) = decide (p ∈ ks) := by
  induction ks with
  | nil => rfl
  | cons k r ih =>
    rw [List.map_cons, List.any_cons, ih, eqv_pr]
    by_cases h : k = p
    · simp [h]
    · have h' : ¬ p = k := fun e => h e.symm
      simp [h, h']
theorem pr_lay : ∀ ks : List (Int × Int), PyData.canLayAll0 (ks.map prD) = true ∧ PyData.depthAll (ks.map prD) ≤ 1
  | [] => by simp [PyData.canLayAll0, PyData.depthAll]
  | k :: r => by
    obtain ⟨h1, h2⟩ := pr_lay r
    show PyData.canLayAll0 (prD k :: r.map prD) = true ∧ PyData.depthAll (prD k :: r.map prD) ≤ 1
    unfold prD at h1 h2 ⊢
    simp [PyData.canLayAll0, PyData.canLay0, PyData.depthAll, PyData.depth, h1]
    omega
theorem pr_shape (ks : List (Int × Int)) : SeqAt.shaped (.tuple (ks.map prD)) = true := by
  obtain ⟨h1, h2⟩ := pr_lay ks
  have h5 : PyData.canLay0 (.tuple (ks.map prD)) = true := by unfold PyData.canLay0; exact h1
  have h6 : PyData.depth (.tuple (ks.map prD)) ≤ 2 := by
    show PyData.depthAll (ks.map prD) + 1 ≤ 2
    omega
  unfold SeqAt.shaped
  rw [h5, decide_eq_true (Nat.le_trans h6 (by decide))]
  rfl
theorem pr_shape1 (p : Int × Int) : SeqAt.shaped (prD p) = true := by
  have h5 : PyData.canLay0 (prD p) = true := by unfold prD; simp [PyData.canLay0, PyData.canLayAll0]
  have h6 : PyData.depth (prD p) ≤ 2 := by unfold prD; simp [PyData.depth, PyData.depthAll]
  unfold SeqAt.shaped
  rw [h5, decide_eq_true (Nat.le_trans h6 (by decide))]
  rfl
theorem PairV.dp {K : PySem.W.Frag} {H : Hp} {x : V} {p : Int × Int} (h : PairV H x p) : Dp K H x (prD p) := by
  obtain ⟨t, rfl, ht⟩ := h
  exact .tup (SqT.of ht) (.cons (.int _) (.cons (.int _) .nil))
theorem PrL.dp {K : PySem.W.Frag} {H : Hp} : ∀ {xs ks}, PrL H xs ks → DpAll K H xs (ks.map prD)
  | _, _, .nil => .nil
  | _, _, .cons h r => .cons h.dp (PrL.dp r)
theorem rv_inP {K : PySem.W.Frag} {H : Hp} {x : V} {p : Int × Int} {a : Addr} {xs : List V} {ks : List (Int × Int)} (hx : PairV H x p) (ha : SqT K H a xs) (hk : PrL H xs ks) : RV (rInDT K) x (.ref a) H (.bl (decide (p ∈ ks))) := fun H1 e Q q =>
  ⟨prD p, ks.map prD, (hx.up e).dp, .tup (ex_t e ha) (hk.up e).dp, pr_shape1 p, pr_shape ks, by rw [any_pr]; exact q H1 (Ex.refl _)⟩
theorem rv_niP {K : PySem.W.Frag} {H : Hp} {x : V} {p : Int × Int} {a : Addr} {xs : List V} {ks : List (Int × Int)} (hx : PairV H x p) (ha : SqT K H a xs) (hk : PrL H xs ks) : RV (rNotInDT K) x (.ref a) H (.bl (!decide (p ∈ ks))) := fun H1 e Q q =>
  ⟨prD p, ks.map prD, (hx.up e).dp, .tup (ex_t e ha) (hk.up e).dp, pr_shape1 p, pr_shape ks, by rw [any_pr]; exact q H1 (Ex.refl _)⟩
/-! ### tuples, lists of pairs -/
/-- a tuple of pairs that stands there -/
def EvQ (K : PySem.W.Frag) (te : TE) (σ : L2.St) (H : Hp) (ks : List (Int × Int)) : Prop := ∀ H1, Ex H H1 → ∀ Q : VK, (∀ p xs H2, Ex H1 H2 → SqT K H2 p xs → PrL H2 xs ks → Q (.ref p) H2) → te σ H1 Q
/-- sorted(pairs), a list or tuple of them -/
theorem ep_sort {K : PySem.W.Frag} {σ : L2.St} {H : Hp} {te : TE} {ks : List (Int × Int)} (h : EvP te σ H ks ∨ EvQ K te σ H ks) : EvP (tCB (rSortedPA K) (tCons te tNil)) σ H (srtP ks) := fun H1 e Q q => by
  have fin : ∀ (l : Addr) (xs : List V) (H2 : Hp), Ex H1 H2 → (SqL K H2 l xs ∨ SqT K H2 l xs) → PrL H2 xs ks → rSortedPA K [.ref l] H2 Q := fun l xs H2 e2 hs hk =>
    ⟨l, xs, prOf H2, rfl, hs, fun x hx => by
      obtain ⟨p, _, hp⟩ := hk.mem x hx
      have e := prOf_eq hp
      obtain ⟨t, rfl, ht⟩ := hp
      exact ⟨t, rfl, by rw [e]; exact ht⟩, fun ys p hs hb hn => by
      have e3 : Ex H2 (upd H2 p (.lst ys)) := Ex.new hn
      have hy : PrL H2 ys (ys.map (prOf H2)) := PrL.of fun y hy => by
        obtain ⟨p, _, hp⟩ := hk.mem y (hb.perm.mem_iff.mp hy)
        exact ⟨p, hp⟩
      have hks := hk.map
      have pm : (ys.map (prOf H2)).Perm ks := by
        rw [← hks]
        exact hb.perm.map _
      have hsr : (ys.map (prOf H2)).Pairwise fun p q => ltB q p = false := List.pairwise_map.mpr hs
      rw [srtP_uniq pm hsr] at hy
      exact q p ys _ (fresh_back e2 hn) (e2.trans e3) upd_same (hy.up e3)⟩
  rcases h with h | h
  · exact h H1 e _ fun p xs H2 hp e2 h2 hk => fin p xs H2 e2 (.inl (SqL.of h2)) hk
  · exact h H1 e _ fun p xs H2 e2 h2 hk => fin p xs H2 e2 (.inr h2) hk
/-- a new tuple of pairs -/
def EvPT (te : TE) (σ : L2.St) (H : Hp) (ks : List (Int × Int)) : Prop := ∀ H1, Ex H H1 → ∀ Q : VK, (∀ p xs H2, H1 p = none → Ex H1 H2 → H2 p = some (.tup xs) → PrL H2 xs ks → Q (.ref p) H2) → te σ H1 Q
theorem ept_tup {K : PySem.W.Frag} {σ : L2.St} {H : Hp} {te : TE} {ks : List (Int × Int)} (h : EvP te σ H ks) : EvPT (tCB (rTupS K) (tCons te tNil)) σ H ks := fun H1 e Q q =>
  h H1 e _ fun p xs H2 hp e2 h2 hk => ⟨p, xs, rfl, .inl ⟨SqL.of h2, fun a ha => q a xs _ (fresh_back e2 ha) (e2.trans (Ex.new ha)) upd_same (hk.up (Ex.new ha))⟩⟩
theorem ept_q {K : PySem.W.Frag} {σ : L2.St} {H : Hp} {te : TE} {ks : List (Int × Int)} (h : EvPT te σ H ks) : EvQ K te σ H ks := fun H1 e Q q => h H1 e _ fun p xs H2 _ e2 h2 hk => q p xs H2 e2 (SqT.of h2) hk
theorem ep_is {σ : L2.St} {H : Hp} {te : TE} {ks ls : List (Int × Int)} (h : EvP te σ H ks) (e : ks = ls) : EvP te σ H ls := e ▸ h
end My
/-! sets of ints made of lists; how many they hold -/
namespace L2
open PySem PySem.Spec PyProof.Rows
section
variable {P : Program} {w : World} {A : Around} {E : Value → Shared → Prop} {s : Shared}
theorem call_set_lstI {l : Addr} {its : Array Value} (ks : List Int) {Q : Value → Shared → Prop} (calm : A.handled = none) (lsI : s.heap.IsList l its) (intsI : IntsAre its.toList ks) (bnd : ks.length + 1 < scanBound)
    (h : ∀ (h' : Heap) (tk c : Nat), SetR w h' s.heap.objs.size (fun j => decide (j ∈ ks)) c → c ≤ ks.length → (∀ b o, s.heap.get? b = some o → h'.get? b = some o) → Q (.ref s.heap.objs.size) { s with heap := h', toks := tk }) :
    wpAny (model P w) A (call (.type "set") [.ref l]) Q E s := by
  have szN : its.size = ks.length := by
    have q := IntsAre.length intsI
    rw [Array.length_toList] at q
    exact q
  obtain ⟨c, tl, mroS⟩ := F.called_set.mro
  have madeS := F.called_set.made
  have subS := F.called_set.sub
  refine wpAny_call (codeAny_of_tree ?_)
  show wpAny _ _ (callAny (.type "set") _) _ _ _
  refine wpAny_pure ⟨Code.quiet_builtin _ (by decide +kernel), codeAny_builtin F.entry_type_call ?_⟩
  rw [Around.under_plain (weight_type_call_type "set" [.ref l] []) rfl]
  have h1 := F.called_set.notType
  have h2 := F.called_set.canCreate
  have ctS := F.typeCall_set_1 (.ref l)
  repeat (any_goals (first | assumption | wp_step))

  refine codeAny_mono (code_set_led1 (.ref l) (E := E) (Q₁ := fun made s₁ => made = .ref s.heap.objs.size ∧ s₁ = { s with heap := s.heap.push { cls := .type "set", dict := none, data := .set #[] 0 (.fresh 0 0 (!w.params.followText "set-order")) } }) ⟨rfl, rfl⟩) fun r s₁ hr => ?_
  cases r with
  | error e => exact hr
  | ok fl =>
    cases fl with
    | ret made =>
      obtain ⟨rfl, rfl⟩ := hr
      have atS : (s.heap.push { cls := .type "set", dict := none, data := .set #[] 0 (.fresh 0 0 (!w.params.followText "set-order")) }).get? s.heap.objs.size = some { cls := .type "set", dict := none, data := .set #[] 0 (.fresh 0 0 (!w.params.followText "set-order")) } := Heap.get?_push_size _ rfl
      have tyS : Shared.TypeIs { s with heap := s.heap.push { cls := .type "set", dict := none, data := .set #[] 0 (.fresh 0 0 (!w.params.followText "set-order")) } } (.ref s.heap.objs.size) "set" := ⟨_, atS, rfl⟩
      have liS := F.called_set.init.lookup
      have biS := F.called_set.init.bind (.ref s.heap.objs.size)
      repeat (any_goals (first | assumption | wp_step))

      refine codeAny_mono (codeAny_call_builtin (R := wants (fun r s₂ => r = .none ∧ ∃ h' tk c, s₂ = { s with heap := h', toks := tk } ∧ SetR w h' s.heap.objs.size (fun j => decide (j ∈ ks)) c ∧ c ≤ ks.length ∧
          (∀ b o, s.heap.get? b = some o → h'.get? b = some o)) E) F.called_set.init.plain F.entry_set_init (check_set_init_1 tyS ?_)) fun r₂ s₂ hr₂ => ?_
      · obtain ⟨ol, obL, clL, nn, dtL⟩ := lsI
        obtain ⟨c1, dct, c3, c4⟩ := ol
        simp only at clL dtL
        subst clL; subst dtL
        have obL2 : (s.heap.push { cls := .type "set", dict := none, data := .set #[] 0 (.fresh 0 0 (!w.params.followText "set-order")) }).get? l = some { cls := .type "list", dict := dct, data := .seq its nn, slots := c4 } := Heap.get?_push_of_some _ obL
        have s1L := F.sub_list_set
        have s2L := F.sub_list_frozenset
        have neq1 : (Value.type "list" == Value.type "dict") = false := by decide
        have lst1 : (s.heap.push { cls := .type "set", dict := none, data := .set #[] 0 (.fresh 0 0 (!w.params.followText "set-order")) }).IsList l its := ⟨_, obL2, rfl, nn, rfl⟩
        unfold Builtin.«set.__init__» noKeywords Builtin.Frozenset.updateFrom
        generalize ePY : pyIter = PY
        wp_walk
        subst ePY

        refine wpAny_pyIter_list lst1 ?_
        refine wpAny_bind (wpAny_runValue ?_)
        have ltS : l < s.heap.objs.size := Heap.lt_size obL
        have calm3 : A.in1.in1.in1.handled = none := by simp [calm]
        have sz1 : (s.heap.push { cls := .type "set", dict := none, data := .set #[] 0 (.fresh 0 0 (!w.params.followText "set-order")) }).objs.size = s.heap.objs.size + 1 := Heap.size_push ..
        have neI : l ≠ (s.heap.push { cls := .type "set", dict := none, data := .set #[] 0 (.fresh 0 0 (!w.params.followText "set-order")) }).objs.size := by
          rw [Heap.size_push]; exact Nat.ne_of_lt (Nat.lt_succ_of_lt ltS)
        have nfS : s.heap.objs.size ∉ [(s.heap.push { cls := .type "set", dict := none, data := .set #[] 0 (.fresh 0 0 (!w.params.followText "set-order")) }).objs.size, l] := by
          rw [Heap.size_push]; simp only [List.mem_cons, List.mem_singleton, List.not_mem_nil, or_false, not_or]
          exact ⟨Nat.ne_of_lt (Nat.lt_succ_self _), Nat.ne_of_gt ltS⟩
        have valS : ∀ (i : Nat) (v : Value), its[i]? = some v → ∃ k t, ks[i]? = some k ∧ v = .int k t := fun i v hv => by
          have hi : i < ks.length := by rw [← szN]; exact (Array.getElem?_eq_some_iff.mp hv).1
          obtain ⟨t, e⟩ := PyProof.Rows.IntsAre.int_at intsI i v (by rw [Array.getElem?_toList]; exact hv)
          refine ⟨ks[i], t, List.getElem?_eq_getElem hi, ?_⟩
          rw [e, List.getD_eq_getElem?_getD, List.getElem?_eq_getElem hi] <;> rfl
        refine set_update_ints ((Walks.list calm3 _ l neI its).toS) s.heap.objs.size
          nfS ks szN bnd valS (its.size - 0) 0 _ (by omega) (Nat.zero_le _)
          ⟨⟨_, Heap.get?_push_size _ rfl, rfl, rfl⟩, (lst1.push _)⟩ ?hS0 ?hR
        case hS0 =>
          have getS : ((s.heap.push { cls := .type "set", dict := none, data := .set #[] 0 (.fresh 0 0 (!w.params.followText "set-order")) }).push { cls := .type "list_iterator", data := .fields #[.ref l, .int 0 0] }).get? s.heap.objs.size
              = some { cls := .type "set", dict := none, data := .set #[] 0 (.fresh 0 0 (!w.params.followText "set-order")) } := Heap.get?_push_of_some _ atS
          exact ⟨0, Nat.le_refl 0, setR_new_at getS⟩
        case hR =>
          intro s' c' hm hc' hS'
          obtain ⟨h', g2, d', tk', os'⟩ := s'
          have eg : g2 = s.gens := hm.gens
          have ed : d' = s.drawn := hm.drawn
          have eo : os' = s.os := hm.os
          subst eg; subst ed; subst eo
          show wpAny _ _ _ _ _ _
          refine wpAny_pure ?_
          show wpAny _ _ (ret Value.none) _ _ _
          rw [szN] at hc'
          refine wpAny_pure ⟨rfl, h', tk', c', rfl, hS', hc', fun b o e => ?_⟩
          have hb0 : b < s.heap.objs.size := Heap.lt_size e
          have hb1 : b ≠ s.heap.objs.size := Nat.ne_of_lt hb0
          have hb2 : b ≠ (s.heap.push { cls := .type "set", dict := none, data := .set #[] 0 (.fresh 0 0 (!w.params.followText "set-order")) }).objs.size := by
            rw [Heap.size_push]; exact Nat.ne_of_lt (Nat.lt_succ_of_lt hb0)
          exact hm.heap b o (by simp only [List.mem_cons, List.mem_singleton, List.not_mem_nil, or_false, not_or]; exact ⟨hb1, hb2⟩) (Heap.get?_push_of_some _ (Heap.get?_push_of_some _ e))

      · cases r₂ with
        | error e => exact hr₂
        | ok fl₂ =>
          cases fl₂ with
          | ret r =>
            obtain ⟨rfl, h', tk, c', rfl, hS', hc', hk'⟩ := hr₂
            repeat (any_goals (first | assumption | wp_step))
            exact h _ _ _ hS' hc' hk'
          | _ => exact hr₂.elim
    | _ => exact hr.elim

end
end L2
/-! set(list), set(tuple) of ints over the layer; len, sorted of them -/
namespace My
open PySem PySem.Spec PyProof.Rows L2 Evl
/-! ### ascending lists without doubles -/
def insU (x : Int) : List Int → List Int
  | [] => [x]
  | y :: r => if x < y then x :: y :: r else if x = y then y :: r else y :: insU x r
def sdd : List Int → List Int
  | [] => []
  | x :: r => insU x (sdd r)
theorem mem_insU {x z : Int} : ∀ {l : List Int}, z ∈ insU x l ↔ z = x ∨ z ∈ l
  | [] => by simp [insU]
  | y :: r => by
    unfold insU
    split
    · simp
    · split
      · rename_i h
        subst h
        simp
      · rw [List.mem_cons, mem_insU (l := r), List.mem_cons]
        constructor
        · rintro (h | h | h)
          · exact .inr (.inl h)
          · exact .inl h
          · exact .inr (.inr h)
        · rintro (h | h | h)
          · exact .inr (.inl h)
          · exact .inl h
          · exact .inr (.inr h)
theorem mem_sdd {z : Int} : ∀ {l : List Int}, z ∈ sdd l ↔ z ∈ l
  | [] => Iff.rfl
  | x :: r => by
    rw [show sdd (x :: r) = insU x (sdd r) from rfl, mem_insU, mem_sdd (l := r), List.mem_cons]
theorem insU_asc {x : Int} : ∀ {l : List Int}, l.Pairwise (· < ·) → (insU x l).Pairwise (· < ·)
  | [], _ => List.pairwise_singleton _ _
  | y :: r, h => by
    obtain ⟨h1, h2⟩ := List.pairwise_cons.mp h
    unfold insU
    split
    · rename_i hx
      refine List.pairwise_cons.mpr ⟨fun z hz => ?_, h⟩
      rcases List.mem_cons.mp hz with e | hz
      · rw [e]; exact hx
      · exact Int.lt_trans hx (h1 z hz)
    · split
      · exact h
      · refine List.pairwise_cons.mpr ⟨fun z hz => ?_, insU_asc h2⟩
        rcases mem_insU.mp hz with e | hz
        · omega
        · exact h1 z hz
theorem sdd_asc : ∀ l : List Int, (sdd l).Pairwise (· < ·)
  | [] => .nil
  | x :: r => insU_asc (sdd_asc r)
theorem asc_ext : ∀ {l m : List Int}, l.Pairwise (· < ·) → m.Pairwise (· < ·) → (∀ z, z ∈ l ↔ z ∈ m) → l = m
  | [], [], _, _, _ => rfl
  | [], y :: m, _, _, h => absurd ((h y).mpr List.mem_cons_self) (by simp)
  | x :: l, [], _, _, h => absurd ((h x).mp List.mem_cons_self) (by simp)
  | x :: l, y :: m, hl, hm, h => by
    obtain ⟨l1, l2⟩ := List.pairwise_cons.mp hl
    obtain ⟨m1, m2⟩ := List.pairwise_cons.mp hm
    have e : x = y := by
      rcases List.mem_cons.mp ((h x).mp List.mem_cons_self) with e | e
      · exact e
      · rcases List.mem_cons.mp ((h y).mpr List.mem_cons_self) with e2 | e2
        · exact e2.symm
        · have := m1 x e
          have := l1 y e2
          omega
    subst e
    refine congrArg (x :: ·) (asc_ext l2 m2 fun z => ⟨fun hz => ?_, fun hz => ?_⟩)
    · rcases List.mem_cons.mp ((h z).mp (List.mem_cons_of_mem _ hz)) with e | e
      · have := l1 z hz
        omega
      · exact e
    · rcases List.mem_cons.mp ((h z).mpr (List.mem_cons_of_mem _ hz)) with e | e
      · have := m1 z hz
        omega
      · exact e
theorem asc_nodup {l : List Int} (h : l.Pairwise (· < ·)) : l.Nodup := h.imp fun h e => by omega
theorem len_nodup {l m : List Int} (hl : l.Nodup) (hm : m.Nodup) (h : ∀ z, z ∈ l ↔ z ∈ m) : l.length = m.length := ((List.perm_ext_iff_of_nodup hl hm).mpr h).length_eq
theorem sdd_len_le : ∀ l : List Int, (sdd l).length ≤ l.length
  | [] => Nat.le_refl _
  | x :: r => by
    have h : ∀ m : List Int, (insU x m).length ≤ m.length + 1 := fun m => by
      induction m with
      | nil => exact Nat.le_refl _
      | cons y m ih =>
        unfold insU
        split
        · exact Nat.le_refl _
        · split
          · simp
          · simp only [List.length_cons]; omega
    have := sdd_len_le r
    have := h (sdd r)
    show (insU x (sdd r)).length ≤ r.length + 1
    omega
theorem sdd_of_asc {l : List Int} (h : l.Pairwise (· < ·)) : sdd l = l := asc_ext (sdd_asc l) h fun _ => mem_sdd
/-- all different exactly if none is lost -/
theorem sdd_len_iff {l : List Int} : (sdd l).length = l.length ↔ l.Nodup := by
  constructor
  · induction l with
    | nil => exact fun _ => .nil
    | cons x r ih =>
      intro h
      have h1 : (insU x (sdd r)).length = r.length + 1 := h
      have h2 := sdd_len_le r
      by_cases hx : x ∈ r
      · have e : insU x (sdd r) = sdd r := asc_ext (insU_asc (sdd_asc r)) (sdd_asc r) fun z => by
          rw [mem_insU]
          exact ⟨fun h => h.elim (fun e => e ▸ mem_sdd.mpr hx) id, .inr⟩
        rw [e] at h1
        omega
      · have e : (insU x (sdd r)).length = (sdd r).length + 1 := by
          have q := len_nodup (asc_nodup (insU_asc (x := x) (sdd_asc r))) (List.nodup_cons.mpr ⟨fun z => hx (mem_sdd.mp z), asc_nodup (sdd_asc r)⟩) fun z => by rw [mem_insU, List.mem_cons]
          rw [q]
          rfl
        exact List.nodup_cons.mpr ⟨hx, ih (by omega)⟩
  · exact fun h => len_nodup (asc_nodup (sdd_asc l)) h fun z => mem_sdd
/-! ### over the layer -/
theorem setR_len {w : World} {h : Heap} {a : Addr} {ns : List Int} {c : Nat} (R : SetR w h a (fun j => decide (j ∈ ns)) c) : c = (sdd ns).length := by
  obtain ⟨o, es, ep, t, ho, hex, hd, g, nd, hm, hb, hf, hn, _⟩ := R
  rw [← hn]
  have e := len_nodup nd (asc_nodup (sdd_asc ns)) fun z => by
    rw [mem_sdd, ← hm z, decide_eq_true_eq]
  rw [← e, List.length_map, Array.length_toList]
/-- set(xs), xs a list or tuple of ints -/
def rSetOf (K : PySem.W.Frag) (w : World) : List V → Hp → VK → Prop := fun xs H Q => ∃ (l : Addr) (ns : List Int), xs = [.ref l] ∧ (SqL K H l (ns.map V.int) ∨ SqT K H l (ns.map V.int)) ∧ ns.length ≤ 4000 ∧ ∀ p, H p = none → Q (.ref p) (upd H p (SetO w p (fun j => decide (j ∈ ns)) (sdd ns).length))
theorem cr_setOf {X : Cx} (hc : X.calm = true) : CallR X (.type "set") (rSetOf X.K X.w) := by
  intro pins s σ H xs us Q I r h
  obtain ⟨l, ns, rfl, hs, hl, q⟩ := h
  rw [Vals.ref1 r]
  have fin : ∀ (h' : Heap) (tk c : Nat), SetR X.w h' s.heap.objs.size (fun j => decide (j ∈ ns)) c → c ≤ ns.length → (∀ b o, s.heap.get? b = some o → h'.get? b = some o) → EP X pins σ Q (.ref s.heap.objs.size) { s with heap := h', toks := tk } := fun h' tk c R _ k => by
    rw [setR_len R] at R
    exact ⟨.ref _, _, I.laid (t' := tk) k (Nat.le_refl _) (setO_new R), rfl, q _ (I.hok.fresh (Nat.le_refl _))⟩
  rcases hs with hs | hs
  · obtain ⟨its, rv, pl, hz⟩ := I.list hs
    have hlen : its.length = ns.length := by rw [← rv.length, List.length_map]
    exact call_set_lstI ns (I.ok.hd hc) pl.isList (RZ.intsAre_vals rv) (by unfold scanBound; omega) fin
  · obtain ⟨its, rv, ht, hz⟩ := I.tuple hs
    have hlen : its.length = ns.length := by rw [← rv.length, List.length_map]
    exact call_set_tupI ns (I.ok.hd hc) ht (RZ.intsAre_vals rv) (by unfold scanBound; omega) fin
/-- len(s), s such a set -/
def rLenSet (w : World) : List V → Hp → VK → Prop := fun xs H Q => ∃ (a : Addr) (S : Int → Bool) (n : Nat), xs = [.ref a] ∧ H a = some (SetO w a S n) ∧ n ≤ 100000 ∧ Q (.int (n : Int)) H
theorem call_lenSet {X : Cx} : CallR X (.builtin "len") (rLenSet X.w) := by
  intro pins s σ H xs us Q I r h
  obtain ⟨a, S, n, rfl, ha, hn, q⟩ := h
  rw [Vals.ref1 r]
  obtain ⟨o, es, ep, t, ho, hex, hd, _, _, _, hb, hf, hn2, _⟩ := setO_get I ha
  exact call_len_set ho hex hd hf (by rw [hn2]; omega) ⟨.int n, H, I.tok _, ⟨_, by rw [hn2]⟩, q⟩
section
variable {K : PySem.W.Frag} {w : World} {σ : L2.St} {B : Hp} {te : TE} {ns : List Int}
/-- sorted(set(xs)) -/
theorem en_sortSet (h : EvD K te σ B (.list (ns.map .int)) ∨ EvD K te σ B (.tuple (ns.map .int))) (hl : ns.length ≤ 4000) (hf : (sdd ns).length < 64) : EvN K (tCB (rSortedSet w) (tCons (tCB (rSetOf K w) (tCons te tNil)) tNil)) σ B ((sdd ns).map .int) := fun B1 H1 e s Q q => by
  have fin : ∀ (l : Addr) (B2 H2 : Hp), Gr B1 H1 B2 H2 → (SqL K H2 l (ns.map V.int) ∨ SqT K H2 l (ns.map V.int)) → rSetOf K w [.ref l] H2 fun v H3 => rSortedSet w [v] H3 Q := fun l B2 H2 g hs =>
    ⟨l, ns, rfl, hs, hl, fun p hp => ⟨p, _, _, rfl, upd_same, hf, fun ks r hk hm _ hr => by
      have e2 : ks = sdd ns := asc_ext hk (sdd_asc ns) fun z => by rw [hm z, mem_sdd, decide_eq_true_eq]
      subst e2
      have g3 : Gr B1 H1 B2 (upd H2 p (SetO w p (fun j => decide (j ∈ ns)) (sdd ns).length)) := g.own (none_of g.h hp) (none_of g.s hp)
      exact q r _ B2 _ (g3.own (none_of g3.h hr) (none_of g3.s hr)) (none_of g3.h hr) (none_of g3.s hr) upd_same (DqAll.ints _)⟩⟩
  rcases h with h | h
  · exact h B1 H1 e s _ fun v B2 H2 g hv => by
      cases hv with
      | lst hs hx =>
        rw [hx.ints_eq] at hs
        exact fin _ B2 H2 g (.inl (ex_l g.s hs))
  · exact h B1 H1 e s _ fun v B2 H2 g hv => by
      cases hv with
      | tup hs hx =>
        rw [hx.ints_eq] at hs
        exact fin _ B2 H2 g (.inr (ex_t g.s hs))
/-- len(set(xs)) -/
theorem ev_lenSet (h : EvD K te σ B (.list (ns.map .int)) ∨ EvD K te σ B (.tuple (ns.map .int))) (hl : ns.length ≤ 4000) : Ev (tCB (rLenSet w) (tCons (tCB (rSetOf K w) (tCons te tNil)) tNil)) σ B (.int ((sdd ns).length : Int)) := fun H1 e Q q => by
  have hs2 := sdd_len_le ns
  have fin : ∀ (l : Addr) (B2 H2 : Hp), Gr B H1 B2 H2 → (SqL K H2 l (ns.map V.int) ∨ SqT K H2 l (ns.map V.int)) → rSetOf K w [.ref l] H2 fun v H3 => rLenSet w [v] H3 Q := fun l B2 H2 g hs =>
    ⟨l, ns, rfl, hs, hl, fun p hp => ⟨p, _, _, rfl, upd_same, by omega, q _ (g.h.trans (Ex.new hp))⟩⟩
  rcases h with h | h
  · exact h B H1 (Ex.refl _) e _ fun v B2 H2 g hv => by
      cases hv with
      | lst hs hx =>
        rw [hx.ints_eq] at hs
        exact fin _ B2 H2 g (.inl (ex_l g.s hs))
  · exact h B H1 (Ex.refl _) e _ fun v B2 H2 g hv => by
      cases hv with
      | tup hs hx =>
        rw [hx.ints_eq] at hs
        exact fin _ B2 H2 g (.inr (ex_t g.s hs))
end
end My
/-! is_whole, is_number of any value; the fields of a net -/
namespace My
open PySem PySem.Spec PyProof.Rows L2 Evl
/-- a value of which isinstance says whether it is a whole number -/
def IntQ (K : PySem.W.Frag) (H : Hp) (x : V) : Prop := ∃ t, (∀ H', Ex H H' → TyX K H' x t) ∧ PySem.W.kitOne K t (.type "int") = some (isIntV x) ∧ (isIntV x = true → PySem.W.kitOne K t (.type "bool") = some (isBoolV x))
theorem IntQ.up {K : PySem.W.Frag} {H H' : Hp} {x : V} (e : Ex H H') (h : IntQ K H x) : IntQ K H' x := let ⟨t, h1, h2⟩ := h; ⟨t, fun H2 e2 => h1 H2 (e.trans e2), h2⟩
theorem intq_flat {K : PySem.W.Frag} {H : Hp} {x : V} (h : flatV x = true) : IntQ K H x := ⟨_, fun _ _ => ty_flat h, kit_int h, fun _ => kit_bool h⟩
theorem intq_tup {K : PySem.W.Frag} {H : Hp} {a : Addr} {xs : List V} (h : SqT K H a xs) : IntQ K H (.ref a) := ⟨.type "tuple", fun _ e => ty_tup (ex_t e h), rfl, fun z => by cases z⟩
theorem intq_lst {K : PySem.W.Frag} {H : Hp} {a : Addr} {xs : List V} (h : H a = some (.lst xs)) : IntQ K H (.ref a) := ⟨.type "list", fun _ e => .base (.lst (e _ _ h)), rfl, fun z => by cases z⟩
section
variable {P : Program} {w : World} {K : PySem.W.Frag} {mg : Str → Option Value} {base : Heap}
def spWhole2 (K : PySem.W.Frag) : Sp := fun vs H Q _ => ∃ x, vs = [x] ∧ IntQ K H x ∧ RetV (.bl (wholeV x)) H Q
theorem ok_whole2 {f : Addr} {fd : FuncData} (F : Fun K "is_whole" "is_whole" s_is_whole f fd) (B : CkB mg) : FnOk P w K mg base CX0 1 f fd ["value"] (spWhole2 K) := by
  refine F.ok scWh (fun vs H Q E h => ?_) (fun cdv A outer s H vs Q E hr h => ?_)
  · obtain ⟨x, rfl, _⟩ := h
    rfl
  · obtain ⟨x, rfl, ⟨t, ht, h1, h2⟩, k⟩ := h
    refine ⟨_, pss_one (ps_ret (pe_and (pe_callB call_isi (by rfl) B.isi boot_isi (pa_cons (pv 0) (pa_cons (pe_bltn (v := .ty "int") (by rfl) B.int boot_intT rfl) pa_nil)))
      (pe_and (pe_not (pe_callB call_isi (by rfl) B.isi boot_isi (pa_cons (pv 0) (pa_cons (pe_bltn (v := .ty "bool") (by rfl) B.bool boot_boolT rfl) pa_nil))))
      (pe_one (pe_chain op_lt op_lt (pe_un un_neg (pe_op op_pow pe_int pe_int)) (pv 0) (pe_op op_pow pe_int pe_int)))))), ?_⟩
    have ePow : ∀ (H1 : Hp) (σ : L2.St), Ev (tOp (rI CPow fun i j => .int (i ^ j.toNat)) (tC (.int 10)) (tC (.int 18))) σ H1 (.int ((10 : Int) ^ (18 : Int).toNat)) :=
      fun H1 σ => ev_op ev_c ev_c (rv_I ⟨by decide, by decide, by decide⟩)
    refine s_ret (v := .bl (wholeV x)) (ev_is (ev_andV (b := !isBoolV x && wholeV x) (ev_isi (ev_var rfl) (.ty _) ht h1) (fun z1 => ev_andV (b := wholeV x) (ev_notV (ev_isi (ev_var rfl) (.ty _) ht (h2 z1))) (fun z2 => ?_))) ?_) (fun H1 e1 => k.go e1)
    · cases x with
      | int i => exact ev_chain (ev_un (ePow _ _) ru_neg) (ev_var rfl) rv_I0 (fun _ => ePow _ _) (fun _ => rv_I0)
      | bl b => cases z2
      | _ => cases z1
    · cases x with
      | int i =>
        show V.bl (true && (true && _)) = _
        rw [Bool.true_and, Bool.true_and]
      | _ => rfl
def spNumber2 (K : PySem.W.Frag) : Sp := fun vs H Q _ => ∃ x lo hi, vs = [x, .int lo, .int hi] ∧ IntQ K H x ∧ RetV (.bl (numV x lo hi)) H Q
theorem sp_whole2 {H : Hp} {x : V} (hx : IntQ K H x) : SpV (spWhole2 K) [x] H (.bl (wholeV x)) := fun H1 e Q q E => ⟨x, rfl, hx.up e, fun H2 e2 => q H2 e2⟩
theorem sp_number2 {H : Hp} {x : V} {lo hi : Int} (hx : IntQ K H x) : SpV (spNumber2 K) [x, .int lo, .int hi] H (.bl (numV x lo hi)) := fun H1 e Q q E => ⟨x, lo, hi, rfl, hx.up e, fun H2 e2 => q H2 e2⟩
theorem ok_number2 {f fW : Addr} {fd fdW : FuncData} (F : Fun K "is_number" "is_number" s_is_number f fd) (B : CkB mg) (FW : Fun K "is_whole" "is_whole" s_is_whole fW fdW) (mgW : mg "is_whole" = some (.ref fW)) : FnOk P w K mg base CX0 2 f fd ["value", "least", "most"] (spNumber2 K) := by
  have GW : FnOk P w K mg base CX0 1 fW fdW ["value"] (spWhole2 K) := ok_whole2 FW B
  have bW : Binds K fdW ["value"] [] := FW.binds (ps := ["value"]) fun _ _ _ _ _ _ us hl => match us, hl with | [_], _ => rfl
  refine F.ok scNu (fun vs H Q E h => ?_) (fun cdv A outer s H vs Q E hr h => ?_)
  · obtain ⟨x, lo, hi, rfl, _⟩ := h
    rfl
  · obtain ⟨x, lo, hi, rfl, hx, k⟩ := h
    refine ⟨_, pss_one (ps_ret (pe_and (pe_call GW hr (by rfl) mgW FW.kp bW .nil pass0 (pa_cons (pv 0) pa_nil)) (pe_one (pe_chain op_le op_le (pv 1) (pv 0) (pv 2))))), ?_⟩
    refine s_ret (v := .bl (numV x lo hi)) (ev_is (ev_andV (b := rngV x lo hi) (ev_call (ea_cons (ev_var rfl) ea_nil) (sp_whole2 hx)) (fun h1 => ?_)) ?_) (fun H1 e1 => k.go e1)
    · cases x with
      | int i => exact ev_chain (ev_var rfl) (ev_var rfl) rv_I0 (fun _ => ev_var rfl) (fun _ => rv_I0)
      | _ => cases h1
    · rfl
/-! ### the fields of a net -/
theorem ev_manyN {C fI : Addr} (T : NtF K mg C fI) {σ : L2.St} {H : Hp} {te : TE} {x : V} {m : Int} {ks : List (Int × Int)} (h : Ev te σ H x) (hx : NetV K C H x m ks) : Ev (tFld K te "many") σ H (.int m) := by
  obtain ⟨s, dx, a, xs, rfl, h2, _⟩ := hx
  exact fun H1 e Q q => h H1 e _ fun H2 e2 => ⟨s, C, dx, _, .int m, rfl, e2 _ _ (e _ _ h2), T.cl, T.nM, rfl, q H2 e2⟩
theorem NetV.tiesAt {C fI : Addr} (T : NtF K mg C fI) {H : Hp} {x : V} {m : Int} {ks : List (Int × Int)} (hx : NetV K C H x m ks) : ∃ a xs, SqT K H a xs ∧ PrL H xs ks ∧ ∀ (te : TE) (σ : L2.St) (H' : Hp), Ex H H' → Ev te σ H' x → Ev (tFld K te "ties") σ H' (.ref a) := by
  obtain ⟨s, dx, a, xs, rfl, h2, h3, h4⟩ := hx
  have ht : ¬ (("ties" : Str) = "many") := by decide +kernel
  exact ⟨a, xs, h3, h4, fun te σ H' e h H1 e1 Q q => h H1 e1 _ fun H2 e2 => ⟨s, C, dx, _, .ref a, rfl, e2 _ _ (e1 _ _ (e _ _ h2)), T.cl, T.nT, rfl, q H2 e2⟩⟩
/-- no net: BadNet at CN -/
def NoNt (K : PySem.W.Frag) (C CN : Addr) (x : V) (H : Hp) (E : XK) : Prop := (∀ H', Ex H H' → NoInst K C H' x) ∧ ∀ H', Ex H H' → E (.ref CN) none H'
end
end My
/-! names of the library; data of ints -/
namespace My
open PySem PySem.Spec PyProof.Rows L2 Evl
section
variable {P : Program} {w : World} {K : PySem.W.Frag} {mg : Str → Option Value} {base : Heap}
structure NmB (mg : Str → Option Value) : Prop where
  isi : mg "isinstance" = none
  int : mg "int" = none
  bool : mg "bool" = none
  tup : mg "tuple" = none
  all : mg "all" = none
  len : mg "len" = none
  zip : mg "zip" = none
  srt : mg "sorted" = none
  set : mg "set" = none
  list : mg "list" = none
  rng : mg "range" = none
  min : mg "min" = none
  max : mg "max" = none
theorem NmB.ck (B : NmB mg) : CkB mg := ⟨B.isi, B.int, B.bool, B.tup, B.all, B.len, B.zip⟩
/-- [.. for x in xs], xs a tuple in a slot -/
theorem el_tupV {σ : L2.St} {H : Hp} {te : TE} {t : TT} {j i : Nat} {vs : List Nat} {a : Addr} {xs : List V} (f : V → Bool) (v : V → V) (hi : σ[i]? = some (some (.ref a))) (ha : SqT K H a xs) (hz : xs.length ≤ 40000) (hw : ∀ x, wipe ((wipe σ vs).set j (some x)) vs = wipe σ vs)
    (ht : ∀ x H1, Ex H H1 → x ∈ xs → EvT t ((wipe σ vs).set j (some x)) H1 (f x)) (he : ∀ x H1, Ex H H1 → x ∈ xs → f x = true → Ev te ((wipe σ vs).set j (some x)) H1 (v x)) : EvL (tLc (iTup K (tVar i)) (gName j) t te vs) σ H ((xs.filter f).map v) := by
  have e : (List.range xs.length).map (fun i => xs.getD i .non) = xs := by
    refine List.ext_getElem (by simp) fun i h1 h2 => ?_
    simp [List.getD_eq_getElem?_getD, h2]
  have e2 : given xs.length (fun i => f (xs.getD i .non)) (fun i => v (xs.getD i .non)) = (xs.filter f).map v := by
    unfold given
    have h1 : (List.range xs.length).filter (fun i => f (xs.getD i .non)) = (List.range xs.length).filter (f ∘ fun i => xs.getD i .non) := rfl
    have h2 : ((List.range xs.length).filter (f ∘ fun i => xs.getD i .non)).map (fun i => xs.getD i .non) = xs.filter f := by
      rw [← List.filter_map, e]
    rw [h1, ← h2, List.map_map]
    rfl
  rw [← e2]
  refine el_lcW (n := xs.length) (Y := YAt xs) _ _ hz (fun H1 e1 R hR => ⟨_, hi, a, rfl, ⟨xs, ex_t e1 ha⟩, hR _ H1 (Ex.refl _) (Walk.mono (walk_tup (K := K) (a := a) (xs := xs)) (fun H' e' => ex_t (e1.trans e') ha) fun _ _ _ _ _ _ y => y)⟩) (fun n x H1 H2 hn e1 y => ?_)
  obtain ⟨rfl, hx⟩ := y
  have e3 : xs.getD n .non = x := by rw [List.getD_eq_getElem?_getD, hx]; rfl
  rw [e3]
  exact ⟨Ex.refl _, _, fun R hR => hR, hw _, ht x H (Ex.refl _) (List.mem_of_getElem? hx), he x H (Ex.refl _) (List.mem_of_getElem? hx)⟩
theorem eqvAll_ints : ∀ ns ms : List Int, PyData.eqvAll (ns.map .int) (ms.map .int) = decide (ns = ms)
  | [], [] => by simp [PyData.eqvAll]
  | [], _ :: _ => by simp [PyData.eqvAll]
  | _ :: _, [] => by simp [PyData.eqvAll]
  | n :: r, k :: q => by
    show PyData.eqvAll (.int n :: r.map .int) (.int k :: q.map .int) = _
    simp only [PyData.eqvAll]
    rw [eqvAll_ints r q, eqv_int]
    by_cases h : n = k <;> simp [h]
theorem eqv_lints (ns ms : List Int) : PyData.eqv (.list (ns.map .int)) (.list (ms.map .int)) = decide (ns = ms) := by
  simp only [PyData.eqv]
  exact eqvAll_ints ns ms
theorem ints_lay : ∀ ns : List Int, PyData.canLayAll0 (ns.map .int) = true ∧ PyData.depthAll (ns.map .int) ≤ 1 ∧ PyData.hasDictAll (ns.map .int) = false
  | [] => by simp [PyData.canLayAll0, PyData.depthAll, PyData.hasDictAll]
  | k :: r => by
    obtain ⟨h1, h2, h3⟩ := ints_lay r
    show PyData.canLayAll0 (.int k :: r.map .int) = true ∧ PyData.depthAll (.int k :: r.map .int) ≤ 1 ∧ PyData.hasDictAll (.int k :: r.map .int) = false
    simp [PyData.canLayAll0, PyData.canLay0, PyData.depthAll, PyData.depth, PyData.hasDictAll, PyData.hasDict, h1, h2, h3]
theorem cmp_ints (ns : List Int) : Cmp (.list (ns.map .int)) := by
  obtain ⟨h1, h2, h3⟩ := ints_lay ns
  refine ⟨by rw [PyData.hasDict]; exact h3, ?_⟩
  have h5 : PyData.canLay0 (.list (ns.map .int)) = true := by unfold PyData.canLay0; exact h1
  have h6 : PyData.depth (.list (ns.map .int)) ≤ 2 := by
    show PyData.depthAll (ns.map .int) + 1 ≤ 2
    omega
  unfold SeqAt.shaped
  rw [h5, decide_eq_true (Nat.le_trans h6 (by decide))]
  rfl
end
end My
/-! numbers and lines as texts (plain) -/
namespace My
open PySem PySem.Spec PyProof.Rows L2 TL
def digB (c : Nat) : Bool := decide (48 ≤ c) && decide (c ≤ 57)
theorem allD_iff {l : List Nat} : l.all digB = true ↔ NumText.AllDigits l := by
  rw [List.all_eq_true]
  refine ⟨fun h c hc => ?_, fun h c hc => ?_⟩
  · have := h c hc
    unfold digB at this
    simpa using this
  · have := h c hc
    unfold digB
    simpa using this
theorem head_app {l m : List Nat} (h : l ≠ []) : (l ++ m).head? = l.head? := by
  cases l with
  | nil => exact absurd rfl h
  | cons a r => rfl
theorem val_app (l : List Nat) (d : Nat) : NumText.digitsVal (l ++ [d]) = NumText.digitsVal l * 10 + (d - 48) := by
  unfold NumText.digitsVal
  rw [List.foldl_append]
  rfl
theorem numL_pos_head : ∀ n : Nat, 0 < n → (numL n).head? ≠ some 48 := by
  intro n
  induction n using Nat.strongRecOn with
  | _ n ih =>
    intro hp
    by_cases h : n < 10
    · rw [numL_lt h]
      intro z
      have := Option.some.inj z
      omega
    · rw [numL_step (by omega), head_app (numL_ne _)]
      exact ih (n / 10) (by omega) (by omega)
theorem numL_zero : numL 0 = [48] := numL_lt (by decide)
theorem rev_ind {P : List Nat → Prop} (h0 : P []) (h1 : ∀ l d, P l → P (l ++ [d])) (l : List Nat) : P l := by
  have : ∀ l : List Nat, P l.reverse := fun l => by
    induction l with
    | nil => exact h0
    | cons a r ih => rw [List.reverse_cons]; exact h1 _ _ ih
  have := this l.reverse
  rwa [List.reverse_reverse] at this
/-- digits with no 0 ahead are the digits of their number -/
theorem numL_val_of : ∀ l : List Nat, NumText.AllDigits l → l ≠ [] → l.head? ≠ some 48 → 0 < NumText.digitsVal l ∧ numL (NumText.digitsVal l) = l := by
  refine rev_ind (fun _ h => absurd rfl h) fun l d ih h hne hh => ?_
  have hd := h d (by simp)
  have ha : NumText.AllDigits l := fun c hc => h c (by simp [hc])
  rw [val_app]
  by_cases e : l = []
  · subst e
    have : d ≠ 48 := fun z => hh (by rw [z]; rfl)
    have v : NumText.digitsVal [] * 10 + (d - 48) = d - 48 := by
      show 0 * 10 + (d - 48) = _
      omega
    rw [v, numL_lt (by omega)]
    refine ⟨by omega, ?_⟩
    show [48 + (d - 48)] = [d]
    rw [show 48 + (d - 48) = d by omega]
  · rw [head_app e] at hh
    obtain ⟨h1, h2⟩ := ih ha e hh
    refine ⟨by omega, ?_⟩
    rw [numL_step (by omega), show (NumText.digitsVal l * 10 + (d - 48)) / 10 = NumText.digitsVal l by omega, show 48 + (NumText.digitsVal l * 10 + (d - 48)) % 10 = d by omega, h2]
/-- the digits of a number, 0 alone counted, are just such -/
theorem numL_iff {l : List Nat} (h : NumText.AllDigits l) (hne : l ≠ []) : numL (NumText.digitsVal l) = l ↔ (l.head? ≠ some 48 ∨ l = [48]) := by
  constructor
  · intro e
    by_cases hz : NumText.digitsVal l = 0
    · rw [hz, numL_zero] at e
      exact .inr e.symm
    · left
      rw [← e]
      exact numL_pos_head _ (by omega)
  · rintro (h1 | rfl)
    · exact (numL_val_of l h hne h1).2
    · rfl
/-- the text of a number -/
def numT (n : Int) : Str := Str.ofString (toString n)
theorem tl_numN (n : Nat) : tl (numT (n : Int)) = numL n := tl_num n
theorem tl_numM (n : Nat) : tl (numT (-((n + 1 : Nat) : Int))) = 45 :: numL (n + 1) := by
  have e : (toString (-((n + 1 : Nat) : Int)) : String) = "-" ++ toString ((n + 1 : Nat) : Int) := rfl
  unfold numT
  rw [e, tl_ofString, String.toList_append, List.map_append]
  have := tl_num (n + 1)
  rw [tl_ofString] at this
  rw [this]
  rfl
/-- what a word tells -/
def digsL (l : List Nat) : List Nat := if l.take 1 = [45] then l.drop 1 else l
def okDL (l : List Nat) : Bool := !(digsL l).isEmpty && (decide ((digsL l).length ≤ 18) && (digsL l).all digB)
def valL (l : List Nat) : Int := if l.take 1 = [45] then -((NumText.digitsVal (digsL l) : Nat) : Int) else ((NumText.digitsVal (digsL l) : Nat) : Int)
def leadL (l : List Nat) : Bool := decide ((digsL l).head? = some 48) && !decide (l = [48])
def numW (x : Str) : Option Int := if okDL (tl x) = true ∧ leadL (tl x) = false then some (valL (tl x)) else none
theorem okDL_ok {l : List Nat} (h : okDL l = true) : digsL l ≠ [] ∧ (digsL l).length ≤ 18 ∧ NumText.AllDigits (digsL l) := by
  unfold okDL at h
  simp only [Bool.and_eq_true, Bool.not_eq_true', decide_eq_true_eq] at h
  exact ⟨fun e => by rw [e] at h; simp at h, h.2.1, allD_iff.mp h.2.2⟩
theorem neg_split {l : List Nat} (h : l.take 1 = [45]) : l = 45 :: digsL l := by
  unfold digsL
  rw [if_pos h]
  cases l with
  | nil => cases h
  | cons a r =>
    have : a = 45 := by simpa using h
    rw [this]
    rfl
theorem pos_split {l : List Nat} (h : ¬ l.take 1 = [45]) : digsL l = l := by unfold digsL; rw [if_neg h]
/-- int(word) -/
theorem int_word {x : Str} (h : okDL (tl x) = true) : intText? x = some (valL (tl x)) := by
  obtain ⟨h1, h2, h3⟩ := okDL_ok h
  by_cases z : (tl x).take 1 = [45]
  · have e := neg_split z
    have hl : x.length ≤ 4300 := by
      rw [len_tl, e, List.length_cons]
      omega
    have := PySem.intText_neg (x := x) (cs := digsL (tl x)) e h3 h1 hl
    rw [this]
    unfold valL
    rw [if_pos z]
  · have e := pos_split z
    have hl : x.length ≤ 4300 := by
      rw [len_tl, ← e]
      omega
    have := PySem.intText_digits (x := x) (by show NumText.AllDigits (tl x); rw [← e]; exact h3) (by show tl x ≠ []; rw [← e]; exact h1) hl
    rw [this]
    unfold valL
    rw [if_neg z, e]
/-- str(int(word)) == word -/
theorem str_int_word {x : Str} (h : okDL (tl x) = true) : numT (valL (tl x)) = x ↔ leadL (tl x) = false := by
  obtain ⟨h1, h2, h3⟩ := okDL_ok h
  have ext : ∀ {y : Str}, y = x ↔ tl y = tl x := ⟨fun e => by rw [e], fun e => ext_tl e⟩
  rw [ext]
  by_cases z : (tl x).take 1 = [45]
  · have e := neg_split z
    have lead : leadL (tl x) = decide ((digsL (tl x)).head? = some 48) := by
      unfold leadL
      rw [decide_eq_false (p := tl x = [48]) (fun y => by rw [y] at z; cases z), Bool.not_false, Bool.and_true]
    rw [lead, decide_eq_false_iff_not]
    unfold valL
    rw [if_pos z]
    generalize digsL (tl x) = ds at *
    by_cases hv : NumText.digitsVal ds = 0
    · rw [hv, show (-((0 : Nat) : Int)) = ((0 : Nat) : Int) from rfl, tl_numN, numL_zero, e]
      refine ⟨fun y => ?_, fun y => ?_⟩
      · cases y
      · exact absurd (numL_val_of ds h3 h1 y).1 (by omega)
    · obtain ⟨m, hm⟩ : ∃ m, NumText.digitsVal ds = m + 1 := ⟨NumText.digitsVal ds - 1, by omega⟩
      rw [hm, tl_numM, e, List.cons.injEq, ← hm]
      constructor
      · rintro ⟨_, y⟩
        rcases (numL_iff h3 h1).mp y with y | y
        · exact y
        · rw [y] at hv
          exact absurd rfl hv
      · exact fun y => ⟨rfl, (numL_iff h3 h1).mpr (.inl y)⟩
  · have e := pos_split z
    have lead : leadL (tl x) = (decide ((tl x).head? = some 48) && !decide (tl x = [48])) := by unfold leadL; rw [e]
    rw [lead]
    unfold valL
    rw [if_neg z, e, tl_numN]
    rw [e] at h1 h3
    rw [numL_iff h3 h1]
    constructor
    · rintro (y | y)
      · rw [decide_eq_false y]; rfl
      · rw [decide_eq_true y, Bool.not_true, Bool.and_false]
    · intro y
      by_cases a : (tl x).head? = some 48
      · right
        rw [decide_eq_true a, Bool.true_and, Bool.not_eq_false', decide_eq_true_eq] at y
        exact y
      · exact .inl a
theorem numW_some {x : Str} {n : Int} (h : numW x = some n) : numT n = x ∧ okDL (tl x) = true := by
  unfold numW at h
  split at h
  · rename_i hc
    rw [← Option.some.inj h]
    exact ⟨(str_int_word hc.1).mpr hc.2, hc.1⟩
  · cases h
theorem numL_len18 {n : Nat} (h : n < 10 ^ 18) : (numL n).length ≤ 18 := numL_len (by decide) h
theorem allDB (n : Nat) : (numL n).all digB = true := allD_iff.mpr (numL_digits n)
theorem numL_hd45 (n : Nat) : ¬ (numL n).take 1 = [45] := fun z => by
  have h : (45 : Nat) ∈ numL n := by
    have : (45 : Nat) ∈ (numL n).take 1 := by rw [z]; simp
    exact List.mem_of_mem_take this
  exact numL_free (by decide) h
/-- the text of a number tells it -/
theorem numW_num {n : Int} (h : -(10 ^ 18 : Int) < n ∧ n < 10 ^ 18) : numW (numT n) = some n := by
  by_cases hn : 0 ≤ n
  · obtain ⟨m, rfl⟩ := Int.eq_ofNat_of_zero_le hn
    have hm : m < 10 ^ 18 := by
      have := h.2
      omega
    have d : digsL (tl (numT (m : Int))) = numL m := by rw [tl_numN]; exact pos_split (numL_hd45 m)
    have ok : okDL (tl (numT (m : Int))) = true := by
      unfold okDL
      rw [d, decide_eq_true (numL_len18 hm), allDB]
      have : (numL m).isEmpty = false := by
        rw [Bool.eq_false_iff]
        exact fun z => numL_ne m (List.isEmpty_iff.mp z)
      rw [this]
      rfl
    have v : valL (tl (numT (m : Int))) = (m : Int) := by
      unfold valL
      rw [d, tl_numN, if_neg (numL_hd45 m), numL_val]
    have := (str_int_word ok).mp (by rw [v])
    unfold numW
    rw [if_pos ⟨ok, this⟩, v]
  · obtain ⟨m, rfl⟩ : ∃ m : Nat, n = -((m + 1 : Nat) : Int) := ⟨(-n).toNat - 1, by omega⟩
    have hm : m + 1 < 10 ^ 18 := by
      have := h.1
      omega
    have t : tl (numT (-((m + 1 : Nat) : Int))) = 45 :: numL (m + 1) := tl_numM m
    have tk : (tl (numT (-((m + 1 : Nat) : Int)))).take 1 = [45] := by rw [t]; rfl
    have d : digsL (tl (numT (-((m + 1 : Nat) : Int)))) = numL (m + 1) := by
      unfold digsL
      rw [if_pos tk, t]
      rfl
    have ok : okDL (tl (numT (-((m + 1 : Nat) : Int)))) = true := by
      unfold okDL
      rw [d, decide_eq_true (numL_len18 hm), allDB]
      have : (numL (m + 1)).isEmpty = false := by
        rw [Bool.eq_false_iff]
        exact fun z => numL_ne _ (List.isEmpty_iff.mp z)
      rw [this]
      rfl
    have v : valL (tl (numT (-((m + 1 : Nat) : Int)))) = -((m + 1 : Nat) : Int) := by
      unfold valL
      rw [d, if_pos tk, numL_val]
    have := (str_int_word ok).mp (by rw [v])
    unfold numW
    rw [if_pos ⟨ok, this⟩, v]
/-! ### split and join -/
theorem spl_free {s : Nat} : ∀ (l acc : List Nat), s ∉ acc → ∀ p ∈ spl [s] 0 acc l, s ∉ p
  | [], acc, h, p, hp => by
    rw [spl_nil, List.mem_singleton] at hp
    rw [hp]
    exact h
  | c :: r, acc, h, p, hp => by
    by_cases e : c = s
    · subst e
      rw [spl_hit (by unfold pre; simp), List.mem_cons] at hp
      rcases hp with rfl | hp
      · exact h
      · exact spl_free r [] (by simp) p hp
    · rw [spl_miss (pre_of_head [] r e)] at hp
      exact spl_free r (acc ++ [c]) (fun z => (List.mem_append.mp z).elim h fun z => e (List.mem_singleton.mp z).symm) p hp
theorem spl_ne {s : Nat} : ∀ (l acc : List Nat), spl [s] 0 acc l ≠ []
  | [], acc => by rw [spl_nil]; simp
  | c :: r, acc => by
    by_cases e : c = s
    · subst e
      rw [spl_hit (by unfold pre; simp)]
      simp
    · rw [spl_miss (pre_of_head [] r e)]
      exact spl_ne r _
theorem joinL_cons {S p : List Nat} {r : List (List Nat)} (h : r ≠ []) : joinL S (p :: r) = p ++ (S ++ joinL S r) := by
  cases r with
  | nil => exact absurd rfl h
  | cons q r => rfl
/-- split, joined again -/
theorem join_spl {s : Nat} : ∀ (l acc : List Nat), joinL [s] (spl [s] 0 acc l) = acc ++ l
  | [], acc => by rw [spl_nil, List.append_nil]; rfl
  | c :: r, acc => by
    by_cases e : c = s
    · subst e
      rw [spl_hit (by unfold pre; simp)]
      show joinL [c] (acc :: TL.spl [c] 0 [] r) = _
      rw [joinL_cons (spl_ne r _)]
      show acc ++ ([c] ++ joinL [c] (spl [c] 0 [] r)) = _
      rw [join_spl r []]
      rfl
    · rw [spl_miss (pre_of_head [] r e), join_spl r (acc ++ [c]), List.append_assoc]
      rfl
/-- one sign that texts are parted by -/
structure SepT (y : Str) (s : Nat) : Prop where
  e : tl y = [s]
  k : y.cps.all (· < 256) = true
section
variable {y : Str} {s : Nat}
theorem SepT.ne (S : SepT y s) : tl y ≠ [] := by rw [S.e]; simp
theorem SepT.spl (S : SepT y s) (x : Str) : (Txt.split x y).map tl = TL.spl [s] 0 [] (tl x) := by rw [split_spl x y S.ne (kind_ok S.k), S.e]
theorem SepT.free (S : SepT y s) (x : Str) : ∀ p ∈ Txt.split x y, s ∉ tl p := fun p hp => spl_free (tl x) [] (by simp) _ (by rw [← S.spl x]; exact List.mem_map.mpr ⟨p, hp, rfl⟩)
theorem SepT.cuts (S : SepT y s) (x : Str) : Txt.split x y ≠ [] := fun z => spl_ne (s := s) (tl x) [] (by rw [← S.spl x, z]; rfl)
theorem SepT.back (S : SepT y s) (x : Str) : Txt.join y (Txt.split x y) = x := by
  refine ext_tl ?_
  rw [join_eq, tl_join, S.e, S.spl, join_spl, List.nil_append]
theorem SepT.join (S : SepT y s) {parts : List Str} (hne : parts ≠ []) (hp : ∀ p ∈ parts, s ∉ tl p) : Txt.split (Txt.join y parts) y = parts := split_join S.e S.k hne hp
end
theorem mem_joinL {S : List Nat} {c : Nat} : ∀ {parts : List (List Nat)}, c ∈ joinL S parts → c ∈ S ∨ ∃ p ∈ parts, c ∈ p
  | [], h => by cases h
  | [p], h => .inr ⟨p, List.mem_singleton.mpr rfl, h⟩
  | p :: q :: r, h => by
    rw [joinL_cons (by simp)] at h
    rcases List.mem_append.mp h with h | h
    · exact .inr ⟨p, List.mem_cons_self, h⟩
    · rcases List.mem_append.mp h with h | h
      · exact .inl h
      · rcases mem_joinL h with h | ⟨z, hz, h⟩
        · exact .inl h
        · exact .inr ⟨z, List.mem_cons_of_mem _ hz, h⟩
/-- what stands in the parts stands in the text -/
theorem spl_mem {s c : Nat} : ∀ (l acc : List Nat), ∀ p ∈ spl [s] 0 acc l, c ∈ p → c ∈ acc ∨ c ∈ l
  | [], acc, p, hp, h => by
    rw [spl_nil, List.mem_singleton] at hp
    rw [hp] at h
    exact .inl h
  | d :: r, acc, p, hp, h => by
    by_cases e : d = s
    · subst e
      rw [spl_hit (by unfold pre; simp), List.mem_cons] at hp
      rcases hp with rfl | hp
      · exact .inl h
      · rcases spl_mem r [] p hp h with h | h
        · cases h
        · exact .inr (List.mem_cons_of_mem _ h)
    · rw [spl_miss (pre_of_head [] r e)] at hp
      rcases spl_mem r _ p hp h with h | h
      · rcases List.mem_append.mp h with h | h
        · exact .inl h
        · exact .inr (by rw [List.mem_singleton.mp h]; exact List.mem_cons_self)
      · exact .inr (List.mem_cons_of_mem _ h)
theorem joinL_length (s : Nat) : ∀ parts : List (List Nat), (joinL [s] parts).length ≤ (parts.map List.length).sum + parts.length
  | [] => Nat.le_refl _
  | [p] => by
    show p.length ≤ _
    simp
  | p :: q :: r => by
    rw [joinL_cons (by simp), List.length_append, List.length_append, List.map_cons, List.sum_cons]
    have := joinL_length s (q :: r)
    simp only [List.length_cons, List.length_nil] at this ⊢
    omega
theorem joinL_length2 (s : Nat) : ∀ parts : List (List Nat), (parts.map List.length).sum + parts.length ≤ (joinL [s] parts).length + 1
  | [] => by
    show 0 + 0 ≤ 0 + 1
    decide
  | [p] => by
    show (p.length + 0) + 1 ≤ p.length + 1
    omega
  | p :: q :: r => by
    rw [joinL_cons (by simp), List.length_append, List.length_append, List.map_cons, List.sum_cons]
    have := joinL_length2 s (q :: r)
    simp only [List.length_cons, List.length_nil] at this ⊢
    omega
end My
/-! words for texts -/
namespace My
open PySem PySem.Spec PyProof.Rows L2 Evl TL
/-- one sign as a text -/
def sgn (c : Nat) : V := .str ⟨#[c]⟩
theorem tl_cut_to (z : Str) (n : Nat) : tl (cutS z none (some (n : Int))) = (tl z).take n := by
  show ((tl z).drop (HT.sIx z.length 0 none)).take (HT.sIx z.length z.length (some (n : Int)) - HT.sIx z.length 0 none) = _
  rw [HT.sIx_none, HT.sIx_nat, List.drop_zero, Nat.sub_zero, len_tl]
  by_cases h : n ≤ (tl z).length
  · rw [Nat.min_eq_left h]
  · rw [Nat.min_eq_right (by omega), List.take_length, List.take_of_length_le (by omega)]
theorem tl_cut_from (z : Str) (n : Nat) : tl (cutS z (some (n : Int)) none) = (tl z).drop n := by
  show ((tl z).drop (HT.sIx z.length 0 (some (n : Int)))).take (HT.sIx z.length z.length none - HT.sIx z.length 0 (some (n : Int))) = _
  rw [HT.sIx_none, HT.sIx_nat, len_tl]
  by_cases h : n ≤ (tl z).length
  · rw [Nat.min_eq_left h, List.take_of_length_le (by rw [List.length_drop]; exact Nat.le_refl _)]
  · rw [Nat.min_eq_right (by omega), List.drop_eq_nil_of_le (Nat.le_refl _), List.drop_eq_nil_of_le (by omega), List.take_nil]
theorem str_eq {a b : Str} : decide (V.str a = V.str b) = decide (tl a = tl b) := by
  rw [Bool.eq_iff_iff, decide_eq_true_eq, decide_eq_true_eq]
  exact ⟨fun e => by cases e; rfl, fun e => congrArg V.str (ext_tl e)⟩
section
variable {K : PySem.W.Frag} {σ : L2.St} {B H : Hp} {te ta tb : TE} {x y : Str}
theorem ev_slS {tlo thi : TO} {lo hi : Option Int} (h : Ev te σ H (.str x)) (h1 : EvO tlo σ H lo) (h2 : EvO thi σ H hi) (hz : x.length ≤ 100000) : Ev (tSl rSlS te tlo thi) σ H (.str (cutS x lo hi)) := fun H1 e Q q =>
  h H1 e _ fun H2 e2 => h1 H2 (e.trans e2) _ fun H3 e3 => h2 H3 ((e.trans e2).trans e3) _ fun H4 e4 => ⟨x, rfl, sz_of hz, q H4 ((e2.trans e3).trans e4)⟩
theorem ev_lenT1 (h : Ev te σ H (.str x)) (hz : x.length ≤ 100000) : Ev (tCB (fun xs H Q => ∃ z : Str, xs = [.str z] ∧ z.length ≤ sizeLine ∧ Q (.int z.length) H) (tCons te tNil)) σ H (.int (x.length : Int)) := fun H1 e Q q =>
  h H1 e _ fun H2 e2 => ⟨x, rfl, sz_of hz, q H2 e2⟩
theorem ev_intT {n : Int} (h : Ev te σ H (.str x)) (hn : intText? x = some n) (hz : x.length ≤ 640) : Ev (tCB (fun xs H Q => ∃ a n, xs = [.str a] ∧ PySem.intText? a = some n ∧ a.length ≤ 640 ∧ Q (.int n) H) (tCons te tNil)) σ H (.int n) := fun H1 e Q q =>
  h H1 e _ fun H2 e2 => ⟨x, n, rfl, hn, hz, q H2 e2⟩
theorem ev_strI {n : Int} (h : Ev te σ H (.int n)) (hn : n.natAbs < 2 ^ 1000) : Ev (tCB (fun xs H Q => ∃ i : Int, xs = [.int i] ∧ i.natAbs.log2 < 1920 ∧ Q (.str (toString i)) H) (tCons te tNil)) σ H (.str (numT n)) := fun H1 e Q q =>
  h H1 e _ fun H2 e2 => ⟨n, rfl, by
    have : n.natAbs.log2 ≤ 1000 := by
      by_cases z : n.natAbs = 0
      · rw [z]; decide
      · exact Nat.le_of_lt ((Nat.log2_lt z).mpr hn)
    omega, q H2 e2⟩
theorem ev_catS (h : Ev ta σ H (.str x)) (k : Ev tb σ H (.str y)) (hl : x.length + y.length ≤ 100000) : Ev (tOp (fun x y H Q => ∃ i j, x = .str i ∧ y = .str j ∧ i.length + j.length ≤ sizeLine ∧ Q (.str (i ++ j)) H) ta tb) σ H (.str (x ++ y)) :=
  ev_op h k fun H1 e Q q => ⟨x, y, rfl, rfl, sz_of hl, q H1 (Ex.refl _)⟩
/-- a list of a text's signs, each led to a value -/
theorem given_sgn (l : List Nat) (f : Nat → Bool) (v : Nat → V) : given l.length (fun i => f (l.getD i 0)) (fun i => v (l.getD i 0)) = (l.filter f).map v := by
  have e : (List.range l.length).map (fun i => l.getD i 0) = l := by
    refine List.ext_getElem (by simp) fun i h1 h2 => ?_
    simp [List.getD_eq_getElem?_getD, h2]
  unfold given
  have h1 : (List.range l.length).filter (fun i => f (l.getD i 0)) = (List.range l.length).filter (f ∘ fun i => l.getD i 0) := rfl
  have h2 : ((List.range l.length).filter (f ∘ fun i => l.getD i 0)).map (fun i => l.getD i 0) = l.filter f := by
    rw [← List.filter_map, e]
  rw [h1, ← h2, List.map_map]
  rfl
theorem el_sgn {t : TT} {j : Nat} {vs : List Nat} (f : Nat → Bool) (v : Nat → V) (h : Ev ta σ H (.str x)) (hz : x.length ≤ 40000) (hw : ∀ x, wipe ((wipe σ vs).set j (some x)) vs = wipe σ vs)
    (ht : ∀ c H1, Ex H H1 → c ∈ tl x → EvT t ((wipe σ vs).set j (some (sgn c))) H1 (f c)) (he : ∀ c H1, Ex H H1 → c ∈ tl x → f c = true → Ev te ((wipe σ vs).set j (some (sgn c))) H1 (v c)) : EvL (tLc (iStr ta) (gName j) t te vs) σ H (((tl x).filter f).map v) := by
  rw [← given_sgn (tl x) f v]
  refine el_lcW (n := (tl x).length) (Y := fun i H v H' => H' = H ∧ ∃ c, x.cps[i]? = some c ∧ v = .str ⟨#[c]⟩) _ _ (by rw [← len_tl]; exact hz) (fun H1 e1 R hR => h H1 e1 _ fun H2 e2 => ⟨x, rfl, hR _ H2 e2 ?_⟩) (fun n y H1 H2 hn e1 hy => ?_)
  · have w := walk_str (z := x)
    have en : x.cps.size = (tl x).length := by unfold tl; rw [Array.length_toList]
    rw [en] at w
    exact Walk.mono w (fun _ _ => True.intro) fun _ _ _ _ _ _ y => y
  · obtain ⟨rfl, c, hc, rfl⟩ := hy
    have hl : (tl x)[n]? = some c := by unfold tl; rw [Array.getElem?_toList]; exact hc
    have hm : c ∈ tl x := List.mem_of_getElem? hl
    have e3 : (tl x).getD n 0 = c := by rw [List.getD_eq_getElem?_getD, hl]; rfl
    refine ⟨Ex.refl _, (wipe σ vs).set j (some (sgn c)), fun R hR => hR, hw _, ?_, ?_⟩
    · rw [e3]
      exact ht c H (Ex.refl _) hm
    · rw [e3]
      exact he c H (Ex.refl _) hm
/-- sign not in DIGITS -/
theorem rv_notDig {c : Nat} : RV (fun x y H Q => ∃ (c : Nat) (z : Str), x = .str ⟨#[c]⟩ ∧ y = .str z ∧ Q (.bl (!decide (c ∈ z.cps.toList))) H) (sgn c) (.str "0123456789") H (.bl (!digB c)) := fun H1 e Q q => ⟨c, _, rfl, rfl, by
  have h : decide (c ∈ (("0123456789" : Str)).cps.toList) = digB c := by
    have e : (("0123456789" : Str)).cps.toList = [48, 49, 50, 51, 52, 53, 54, 55, 56, 57] := by decide +kernel
    rw [e]
    unfold digB
    rw [Bool.eq_iff_iff, Bool.and_eq_true, decide_eq_true_eq, decide_eq_true_eq, decide_eq_true_eq]
    simp only [List.mem_cons, List.not_mem_nil, or_false]
    omega
  rw [h]
  exact q H1 (Ex.refl _)⟩
end
/-- a number or None -/
def optV : Option Int → V
  | none => .non
  | some n => .int n
def optD : Option Int → PyData
  | none => .none
  | some n => .int n
theorem dq_opt {K : PySem.W.Frag} {H : Hp} (o : Option Int) : Dq K H (optV o) (optD o) := by
  cases o with
  | none => exact .non
  | some n => exact .int n
theorem dq_opts {K : PySem.W.Frag} {H : Hp} : ∀ os : List (Option Int), DqAll K H (os.map optV) (os.map optD)
  | [] => .nil
  | o :: r => .cons (dq_opt o) (dq_opts r)
end My
/-! number_of, _law_k90_number -/
namespace My
open PySem PySem.Spec PyProof.Rows L2 Evl TL
section
variable {P : Program} {w : World} {K : PySem.W.Frag} {mg : Str → Option Value} {base : Heap}
def spNum : Sp := fun vs H Q _ => ∃ x : Str, vs = [.str x] ∧ x.length ≤ 40000 ∧ RetV (optV (numW x)) H Q
theorem boot_anyN : bootBuiltins "any" = some (.builtin "any") := by decide +kernel
abbrev nNum : List Str := ["word", "digits", "sign"]
theorem scNum : FnScope nNum ["word"] (defScope s_number_of) := ⟨rfl, rfl, rfl, by decide +kernel, rfl, by decide +kernel, by decide +kernel⟩
theorem digs_str (x : Str) : ∃ d : Str, tl d = digsL (tl x) ∧ d.length ≤ x.length ∧ d = if (tl x).take 1 = [45] then cutS x (some 1) none else x := by
  refine ⟨_, ?_, ?_, rfl⟩
  · unfold digsL
    split
    · exact tl_cut_from x 1
    · rfl
  · split
    · rw [len_tl, len_tl, show tl (cutS x (some 1) none) = (tl x).drop 1 from tl_cut_from x 1, List.length_drop]
      omega
    · exact Nat.le_refl _
theorem any_notDig (l : List Nat) : ((l.filter fun _ => true).map fun c => V.bl (!digB c)) = (l.map fun c => !digB c).map V.bl := by
  rw [List.filter_eq_self.mpr fun _ _ => rfl, List.map_map]
  rfl
theorem empty_tl (d : Str) : decide (V.str d = V.str "") = (tl d).isEmpty := by
  rw [str_eq]
  have : tl ("" : Str) = [] := by decide +kernel
  rw [this]
  cases tl d <;> rfl
theorem okDL_or {l ds : List Nat} (e : ds = digsL l) : (ds.isEmpty || (decide (ds.length > 18) || (ds.map fun c => !digB c).any id)) = !okDL l := by
  subst e
  unfold okDL
  have h : ((digsL l).map fun c => !digB c).any id = !(digsL l).all digB := by
    rw [List.any_map]
    induction digsL l with
    | nil => rfl
    | cons a r ih =>
      rw [List.any_cons, List.all_cons, ih]
      show (!digB a || !r.all digB) = _
      cases digB a <;> rfl
  rw [h]
  have h2 : decide ((digsL l).length > 18) = !decide ((digsL l).length ≤ 18) := by
    rw [Bool.eq_iff_iff, Bool.not_eq_true', decide_eq_true_eq, decide_eq_false_iff_not]
    omega
  rw [h2]
  cases (digsL l).isEmpty <;> cases decide ((digsL l).length ≤ 18) <;> cases (digsL l).all digB <;> rfl
theorem minus_tl (x : Str) : decide (V.str (cutS x none (some 1)) = V.str "-") = decide ((tl x).take 1 = [45]) := by
  rw [str_eq, show tl (cutS x none (some 1)) = (tl x).take 1 from tl_cut_to x 1]
  have : tl ("-" : Str) = [45] := by decide +kernel
  rw [this]
theorem valL_small {l : List Nat} (h : okDL l = true) : (valL l).natAbs < 2 ^ 1000 := by
  obtain ⟨_, h2, h3⟩ := okDL_ok h
  have key : ∀ (m : List Nat) (a k : Nat), NumText.AllDigits m → a < 10 ^ k → m.foldl (fun acc c => acc * 10 + (c - 48)) a < 10 ^ (k + m.length) := fun m => by
    induction m with
    | nil => exact fun a k _ h => h
    | cons c r ih =>
      intro a k hd ha
      have hc := hd.head
      have := ih (a * 10 + (c - 48)) (k + 1) hd.tail (by rw [Nat.pow_succ]; omega)
      rw [List.foldl_cons, List.length_cons, show k + (r.length + 1) = k + 1 + r.length by omega]
      exact this
  have b : NumText.digitsVal (digsL l) < 10 ^ 18 := by
    have := key (digsL l) 0 0 h3 (by decide)
    rw [Nat.zero_add] at this
    exact Nat.lt_of_lt_of_le this (Nat.pow_le_pow_right (by decide) h2)
  have e : (valL l).natAbs = NumText.digitsVal (digsL l) := by
    unfold valL
    split
    · rw [Int.natAbs_neg]
      rfl
    · rfl
  rw [e]
  exact Nat.lt_of_lt_of_le b (by decide +kernel)
theorem word_len {x : Str} (h : okDL (tl x) = true) : x.length ≤ 19 := by
  obtain ⟨_, h2, _⟩ := okDL_ok h
  rw [len_tl]
  by_cases z : (tl x).take 1 = [45]
  · rw [neg_split z, List.length_cons]
    omega
  · rw [pos_split z] at h2
    omega
theorem ok_num {f : Addr} {fd : FuncData} (F : Fun K "number_of" "number_of" s_number_of f fd) (B : NmB mg) (gA : mg "any" = none) (gS : mg "str" = none) {tD : Tok} (gD : mg "DIGITS" = some (.str "0123456789" tD)) : FnOk P w K mg base CX0 1 f fd ["word"] spNum := by
  refine F.ok scNum (fun vs H Q E h => ?_) (fun cdv A outer s H vs Q E hr h => ?_)
  · obtain ⟨x, rfl, _⟩ := h
    rfl
  · obtain ⟨x, rfl, hx, k⟩ := h
    refine ⟨_, pss_cons (ps_set (i := 1) scNum.nd rfl (Or.inl rfl) (pe_ifExp (pt_cmpR op_eq (pe_slice sl_str (pv 0) po_none (po_some pe_int)) pe_str (nomark _)) (pe_slice sl_str (pv 0) (po_some pe_int) po_none) (pv 0)))
      (pss_cons (ps_if (PW.pt (pw_or (pt_cmpR op_eq (pv 1) pe_str (nomark _)) (pw_or (pt_cmpR op_gt (pe_callB call_len_str (by rfl) B.len PySem.boot_len (pa_cons (pv 1) pa_nil)) pe_int (nomark _))
          (pw_or1 (pt_val (pe_callB (call_anyB rfl) (by rfl) gA boot_anyN (pa_cons (pe_lc (own := [("sign", 2)]) (g := gName 2) rfl scNum.nd (pi_str (pv 1)) (blkOk_by (N := nNum) (sc := defScope s_number_of) (by decide +kernel))
            (fun _ _ _ _ _ => pg_name (i := 2) scNum.nd rfl (Or.inl rfl)) (fun _ _ _ _ _ => pts_nil) (fun _ _ _ _ _ => pe_cmpR op_notIn_sign (pv 2) (pe_glob (v := .str "0123456789") (by rfl) gD ⟨_, rfl⟩) (by rfl))) pa_nil))))))) (pss_one (ps_ret pe_non)) pss_nil)
      (pss_one (ps_ret (pe_ifExp (pt_cmpR op_ne (pe_callTy call_str_int (by rfl) gS boot_strT (pa_cons (pe_callTy call_int_str (by rfl) B.int boot_intT (pa_cons (pv 0) pa_nil)) pa_nil)) (pv 0) (nomark _)) pe_non (pe_callTy call_int_str (by rfl) B.int boot_intT (pa_cons (pv 0) pa_nil)))))), ?_⟩
    obtain ⟨d, hd, hdl, he⟩ := digs_str x
    refine q_asg (v := .str d) (ev_if (b := decide ((tl x).take 1 = [45])) (et_is (et_test (ev_op (ev_slS (ev_var rfl) eo_none (eo_some ev_c) (by omega)) ev_c (rv_eq rfl))) (minus_tl x)) (fun z => ?_) (fun z => ?_)) fun H1 e1 => ?_
    · rw [he, if_pos (of_decide_eq_true z)]
      exact ev_slS (ev_var rfl) (eo_some ev_c) eo_none (by omega)
    · rw [he, if_neg (of_decide_eq_false z)]
      exact ev_var rfl
    have hdl2 : d.length ≤ 40000 := by omega
    refine q_when (b := !okDL (tl x)) (et_is (et_or (et_test (ev_op (ev_var rfl) ev_c (rv_eq rfl))) (fun _ => et_or (et_test (ev_op (ev_lenT1 (ev_var rfl) (by omega)) ev_c rv_I0)) (fun _ => et_B (ev_any (el_is (el_sgn (x := d) (fun _ => true) (fun c => .bl (!digB c)) (ev_var rfl) hdl2 (fun _ => rfl) (fun _ _ _ _ => fun H2 e2 Q q => q H2 (Ex.refl _)) (fun c H2 e2 hc _ => ev_op (ev_var rfl) ev_c rv_notDig)) (any_notDig _)))))) ?_) (fun z H2 e2 => ?_) (fun z H2 e2 => ?_)
    · rw [empty_tl, ← okDL_or hd, len_tl]
      congr 2
      rw [Bool.eq_iff_iff, decide_eq_true_eq, decide_eq_true_eq]
      omega
    · have hn : numW x = none := by
        unfold numW
        rw [if_neg]
        rintro ⟨h1, _⟩
        rw [h1] at z
        cases z
      rw [hn] at k
      exact s_ret (v := .non) ev_c fun H3 e3 => k.go ((e1.trans e2).trans e3)
    · have ok : okDL (tl x) = true := by simpa using z
      have hi := int_word ok
      have hl := word_len ok
      refine s_ret (v := optV (numW x)) (ev_if (b := leadL (tl x)) (et_is (et_test (ev_op (ev_strI (ev_intT (ev_var rfl) hi (by omega)) (valL_small ok)) (ev_var rfl) (rv_ne rfl))) ?_) (fun z => ?_) (fun z => ?_)) fun H3 e3 => k.go ((e1.trans e2).trans e3)
      · have := str_int_word ok
        have e : decide (V.str (numT (valL (tl x))) = V.str x) = decide (numT (valL (tl x)) = x) := by
          rw [Bool.eq_iff_iff, decide_eq_true_eq, decide_eq_true_eq]
          exact ⟨fun e => by injection e, fun e => congrArg V.str e⟩
        rw [e]
        by_cases y : leadL (tl x) = false
        · rw [decide_eq_true (this.mpr y), y]
          rfl
        · rw [decide_eq_false (fun u => y (this.mp u))]
          have : leadL (tl x) = true := by simpa using y
          rw [this]
          rfl
      · have hn : numW x = none := by
          unfold numW
          rw [if_neg]
          rintro ⟨_, h1⟩
          rw [h1] at z
          cases z
        rw [hn]
        exact ev_c
      · have hn : numW x = some (valL (tl x)) := by
          unfold numW
          rw [if_pos ⟨ok, z⟩]
        rw [hn]
        exact ev_intT (ev_var rfl) hi (by omega)
/-! ### the law's own -/
theorem ones_dq {H : Hp} (l : List Nat) : DqAll K H (l.map fun c => V.int 1) ((l.map fun _ => (1 : Int)).map .int) := by
  induction l with
  | nil => exact .nil
  | cons a r ih => exact .cons (.int 1) ih
abbrev nLn : List Str := ["word", "digits", "sign"]
theorem scLn : FnScope nLn ["word"] (defScope s_law_num) := ⟨rfl, rfl, rfl, by decide +kernel, rfl, by decide +kernel, by decide +kernel⟩
theorem ones_ne (l : List Nat) : (!PyData.eqv (.list (((l.filter fun c => !digB c).map fun _ => (1 : Int)).map .int)) (.list [])) = (l.map fun c => !digB c).any id := by
  rw [eqv_ints_nil, List.any_map]
  induction l with
  | nil => rfl
  | cons a r ih =>
    rw [List.any_cons, List.filter_cons]
    show _ = (!digB a || _)
    cases digB a
    · rfl
    · exact ih
theorem ok_lnum {x : Str} {f : Addr} {fd : FuncData} (F : Fun K x x s_law_num f fd) (B : NmB mg) : FnOk P w K mg base CX0 1 f fd ["word"] spNum := by
  refine F.ok scLn (fun vs H Q E h => ?_) (fun cdv A outer s H vs Q E hr h => ?_)
  · obtain ⟨x, rfl, _⟩ := h
    rfl
  · obtain ⟨x, rfl, hx, k⟩ := h
    refine ⟨_, pss_cons (ps_set (i := 1) scLn.nd rfl (Or.inl rfl) (pe_ifExp (pt_cmpR op_eq (pe_slice sl_str (pv 0) po_none (po_some pe_int)) pe_str (nomark _)) (pe_slice sl_str (pv 0) (po_some pe_int) po_none) (pv 0)))
      (pss_cons (ps_if (PW.pt (pw_or (pt_cmpR op_eq (pv 1) pe_str (nomark _)) (pw_or (pt_cmpR op_gt (pe_callB call_len_str (by rfl) B.len PySem.boot_len (pa_cons (pv 1) pa_nil)) pe_int (nomark _))
          (pw_or1 (pt_cmpR (show OpR _ (compareOp .NotEq) (rNeD K) from op_neD hr.units) (pe_lc (own := [("sign", 2)]) (g := gName 2) rfl scLn.nd (pi_str (pv 1)) (blkOk_by (N := nLn) (sc := defScope s_law_num) (by decide +kernel))
            (fun _ _ _ _ _ => pg_name (i := 2) scLn.nd rfl (Or.inl rfl)) (fun _ _ _ _ _ => pts_one (pt_cmpR op_notIn_sign (pv 2) pe_str (by rfl))) (fun _ _ _ _ _ => pe_int)) (pe_lst pa_nil) (nomark _)))))) (pss_one (ps_ret pe_non)) pss_nil)
      (pss_one (ps_ret (pe_ifExp (PW.pt (pw_and (pt_cmpR op_eq (pe_ix ix_str (pv 1) pe_int (fun _ _ => rfl)) pe_str (nomark _)) (pw_and1 (pt_cmpR op_ne (pv 0) pe_str (nomark _))))) pe_non (pe_callTy call_int_str (by rfl) B.int boot_intT (pa_cons (pv 0) pa_nil)))))), ?_⟩
    obtain ⟨d, hd, hdl, he⟩ := digs_str x
    refine q_asg (v := .str d) (ev_if (b := decide ((tl x).take 1 = [45])) (et_is (et_test (ev_op (ev_slS (ev_var rfl) eo_none (eo_some ev_c) (by omega)) ev_c (rv_eq rfl))) (minus_tl x)) (fun z => ?_) (fun z => ?_)) fun H1 e1 => ?_
    · rw [he, if_pos (of_decide_eq_true z)]
      exact ev_slS (ev_var rfl) (eo_some ev_c) eo_none (by omega)
    · rw [he, if_neg (of_decide_eq_false z)]
      exact ev_var rfl
    have hdl2 : d.length ≤ 40000 := by omega
    refine q_when (b := !okDL (tl x)) (et_is (et_or (et_test (ev_op (ev_var rfl) ev_c (rv_eq rfl))) (fun _ => et_or (et_test (ev_op (ev_lenT1 (ev_var rfl) (by omega)) ev_c rv_I0)) (fun _ => et_test (ev_neD (K := K) (ed_N (en_of_L (el_sgn (x := d) (fun c => !digB c) (fun c => .int 1) (ev_var rfl) hdl2 (fun _ => rfl) (fun c H2 e2 hc => et_test (ev_op (ev_var rfl) ev_c rv_notDig)) (fun _ _ _ _ _ => ev_c)) (ones_dq _))) (ed_N (en_lst ead_nil (by show 0 ≤ 100000; decide))) (cmp_ints _) (cmp_ints []))))) ?_) (fun z H2 e2 => ?_) (fun z H2 e2 => ?_)
    · rw [empty_tl, ← okDL_or hd, ← ones_ne, len_tl]
      congr 2
      rw [Bool.eq_iff_iff, decide_eq_true_eq, decide_eq_true_eq]
      omega
    · have hn : numW x = none := by
        unfold numW
        rw [if_neg]
        rintro ⟨h1, _⟩
        rw [h1] at z
        cases z
      rw [hn] at k
      exact s_ret (v := .non) ev_c fun H3 e3 => k.go ((e1.trans e2).trans e3)
    · have ok : okDL (tl x) = true := by simpa using z
      have hi := int_word ok
      have hl := word_len ok
      obtain ⟨c, hc⟩ : ∃ c, (tl d).head? = some c := by
        rw [hd]
        cases e : digsL (tl x) with
        | nil => exact absurd e (okDL_ok ok).1
        | cons a r => exact ⟨a, rfl⟩
      have hat : atI d.cps.toList 0 = some c := by
        rw [List.head?_eq_getElem?] at hc
        exact atI_nat (j := 0) hc
      have e48 : decide (V.str ⟨#[c]⟩ = V.str "0") = decide ((digsL (tl x)).head? = some 48) := by
        rw [str_eq, ← hd, hc]
        have : tl ("0" : Str) = [48] := by decide +kernel
        rw [this, Bool.eq_iff_iff, decide_eq_true_eq, decide_eq_true_eq]
        show [c] = [48] ↔ _
        simp
      have e0 : decide (V.str x = V.str "0") = decide (tl x = [48]) := by
        rw [str_eq]
        have : tl ("0" : Str) = [48] := by decide +kernel
        rw [this]
      refine s_ret (v := optV (numW x)) (ev_if (b := leadL (tl x)) (et_is (et_and (et_test (ev_op (ev_op (ev_var rfl) ev_c (fun H2 e2 Q q => ⟨d, 0, c, rfl, rfl, sz_of (by omega), hat, q H2 (Ex.refl _)⟩)) ev_c (rv_eq rfl))) (fun _ => et_test (ev_op (ev_var rfl) ev_c (rv_ne rfl)))) ?_) (fun z => ?_) (fun z => ?_)) fun H3 e3 => k.go ((e1.trans e2).trans e3)
      · rw [e48, e0]
        rfl
      · have hn : numW x = none := by
          unfold numW
          rw [if_neg]
          rintro ⟨_, h1⟩
          rw [h1] at z
          cases z
        rw [hn]
        exact ev_c
      · have hn : numW x = some (valL (tl x)) := by
          unfold numW
          rw [if_pos ⟨ok, z⟩]
        rw [hn]
        exact ev_intT (ev_var rfl) hi (by omega)
end
end My
/-! an own error with an __init__ of its own: raised with what it holds, held, its field read -/
namespace My
open PySem PySem.Spec PyProof.Rows L2 Evl Kpt
/-- self.f = v of a fresh error of the class at C -/
def spIniE (C : Addr) (f : Str) : Sp := fun vs H Q _ => ∃ (a : Addr) (v : V), vs = [.ref a, v] ∧ H a = some (exo a C none) ∧ ∀ dx, H dx = none → dx ≠ a → Q .non (upd (upd H dx (exd dx [(f, v)])) a (exo a C (some dx)))
/-- what the whole text must say of super, and of the name f -/
structure SupM (P : Program) (mg : Str → Option Value) (file f : Str) : Prop where
  sup : mg "super" = none
  fileE : ((P.main.file : Str) == file) = true
  topE : (P.main.scope.names.lookup ("super" : Str)).isSome = false
  fs : ¬ f = "self"
  fc : ¬ f = "__class__"
  fu : ¬ f = "super"
  fd : (f == ("__debug__" : Str)) = false
section
variable {P : Program} {w : World} {K : PySem.W.Frag} {mg : Str → Option Value} {base : Heap} {C fI : Addr} {f text file : Str}
theorem ini_heap {h h' : Heap} {H : Hp} {a dx t1 t2 : Addr} {v : V} {u : Value} {fs : List Addr} (ok : HOk P w H h) (ea : H a = some (exo a C none)) (M : IniEnd h h' a C dx t1 f u) (rv : RelV v u) :
    H dx = none ∧ Un fs [] H (upd (upd H dx (exd dx [(f, v)])) a (exo a C (some dx))) h h' ∧ HOk P w (upd (upd H dx (exd dx [(f, v)])) a (exo a C (some dx))) h' := by
  have hn : H dx = none := ok.fresh M.dbig
  have ner : ∀ b, H b = none → b ≠ a := fun b e z => by
    rw [z, ea] at e
    cases e
  have low : ∀ b o, h.get? b = some o → b ≠ dx := fun b o e => Nat.ne_of_lt (Nat.lt_of_lt_of_le (Heap.lt_size e) M.dbig)
  have same : ∀ b o, b ≠ a → H b = some o → upd (upd H dx (exd dx [(f, v)])) a (exo a C (some dx)) b = some o := fun b o hb e => by
    rw [upd_ne hb, upd_ne (fun z => by rw [z, hn] at e; cases e)]
    exact e
  have oth : ∀ b o, H b = some o → exo a C none ≠ o → b ≠ a := fun b o e ne z => by
    rw [z, ea] at e
    exact ne (Option.some.inj e)
  refine ⟨hn, ⟨fun b o e n _ _ => M.keep b o (ner b n) e, fun b o e n _ _ => ⟨_, M.keep b o (ner b n) e⟩, fun b o e n _ => ?_, fun b o e _ => ?_, fun b xs e => same b _ (oth b _ e exo_tup) e, fun b o u e => same b _ (oth b _ e exo_frz) e, fun b ps e => ⟨#[], ?_⟩⟩, fun b o e => ?_⟩
  · rw [upd_ne (ner b n), upd_ne (low b o e)]
    exact n
  · by_cases z : b = a
    · subst z
      exact ⟨_, M.obj⟩
    · exact ⟨o, M.keep b o z e⟩
  · rw [same b _ (oth b _ e exo_tbl) e]
    simp
  · by_cases z : b = a
    · rw [z, upd_same] at e
      rw [z, ← Option.some.inj e]
      exact exo_ok M.obj
    · rw [upd_ne z] at e
      by_cases y : b = dx
      · rw [y, upd_same] at e
        rw [y, ← Option.some.inj e]
        exact exd_ok M.ns (relO_put (fs := []) rv fun g => True.intro)
      · rw [upd_ne y] at e
        refine ObjOk.stay (ok b o e) (fun c v' hc q => M.keep c v' ?_ q) (fun c hc => same c _ (oth c _ hc exo_own) hc) fun c xs hc => same c _ (oth c _ hc exo_tup) hc
        rcases hc with rfl | hc
        · exact z
        · exact oth c _ hc exo_own
theorem ok_ini (T : IniAt K C fI f text file) (S : SupM P mg file f) {oc : Value} {od : Option Addr} {fd : FuncData} {osl : Array (Option Value)} (lk : K.lookup fI = some ⟨oc, od, .func fd, osl⟩) : FnOk P w K mg base CX0 1 fI fd ["self", f] (spIniE C f) := by
  refine ⟨fun vs H Q E h => ?_, fun A outer s H args us vs Q E hr e0 hb r hsp => ?_⟩
  · obtain ⟨a, v, rfl, _⟩ := h
    rfl
  · obtain ⟨a, v, rfl, ea, q⟩ := hsp
    obtain ⟨u1, u, rfl, r1, ru⟩ := vals2 r
    obtain rfl : u1 = Value.ref a := r1
    obtain ⟨t1, hoe⟩ := exo_at e0.hok ea
    have kp : ∀ b o, base.get? b = some o → s.heap.get? b = some o := fun b o e => (e0.bs b o e).1
    obtain ⟨mb, hB, hmb⟩ := e0.mod.blt
    refine ini_run (mg := mg) (mb := mb) (x := a) (t0 := t1) (v := u) T (e0.mod.kin.keeps kp) (e0.mod.glob.keeps kp) (hB.keeps kp) hmb (e0.mod.nolimit.keeps kp) S.sup S.fileE S.topE S.fs S.fc S.fu S.fd (fun a1 a2 fd' oc' od' osl' lk' e1 e2 => ?_) hoe ?_ ?_ (fun h' tk dx t1' M => ?_)
    · rw [lk] at lk'
      have z := Option.some.inj lk'
      injection z with z1 z2 z3 z4
      injection z3 with z5
      rw [← z5]
      exact hb
    · cases e : K.lookup a with
      | none => rfl
      | some o =>
        have := (e0.bs _ _ (e0.mod.kin _ _ e)).2
        rw [ea] at this
        cases this
    · have := hr.dp
      omega
    · obtain ⟨hn, un, ok⟩ := ini_heap (fs := frs outer) (t2 := t1) e0.hok ea M ru
      exact ⟨.non, _, rfl, e0.bare, un, ok, rfl, q dx hn M.dne⟩
end
/-! ### raise C(e) -/
/-- a reading that may promise less -/
def tMono (te : TE) : TE := fun σ H Q => ∃ Q' : VK, (∀ v H1, Q' v H1 → Q v H1) ∧ te σ H Q'
theorem pe_mono {X : Cx} {e : Expr} {te : TE} (he : PE X e te) : PE X e (tMono te) :=
  ⟨fun pins s σ H Q I ⟨Q', hq, h⟩ => thn (he.run pins s σ H Q' I h) fun u s1 ⟨v, H1, I1, r, q⟩ => ⟨v, H1, I1, r, hq v H1 q⟩⟩
section
variable {X : Cx} {C fI : Addr} {f text file x : Str} {e : Expr} {te : TE} {p pos : Pos}
theorem IniAt.oex {K : PySem.W.Frag} (T : IniAt K C fI f text file) (sb : PySem.W.subIn K (.ref C) (.type "BaseException") = some true) (ty : PySem.W.typeIn K (.ref C) = some (.type "type")) : OexC K C := ⟨T.cls, T.sa, sb, ty, T.kC⟩
/-- the reading of C(e) that is raised: the class, the dict that holds f -/
def tRaI (C : Addr) (f : Str) (te : TE) : L2.St → Hp → XK → Prop := fun σ H Q => te σ H fun v H1 => ∀ d, H1 d = none → Q (.ref C) (some d) (upd H1 d (.xd [(f, v)]))
theorem pmk_ini (T : IniAt X.K C fI f text file) (S : SupM X.prog X.mg file f) (sb : PySem.W.subIn X.K (.ref C) (.type "BaseException") = some true) (ty : PySem.W.typeIn X.K (.ref C) = some (.type "type")) (hr : Room 2 X.A) (gC : X.mg x = some (.ref C)) (he : PE X e te)
    (hbf : ∀ (a1 a2 : Pos) (fd : FuncData) (y u : Value), fd.params = iniA f a1 a2 → fd.defaults = .none → bindArgs fd ⟨[y, u], []⟩ = pure [(("self" : Str), y), (f, u)]) (hg : Gl X x := by rfl)
    (hdb : (x == ("__debug__" : Str)) = false := by decide) (hs : starEach (e :: []) X.env = (false, eval e X.env) :: starEach [] X.env := by rfl) (hpl : (backTo pos (starEach [] X.env)).any (·.1) = false := by rfl) :
    PMk X (.Call (.Name x p) [e] [] pos) (tRaI C f te) := by
  obtain ⟨oc, kV, doc, pm, ct, ccl, cl, od, an, cdd, cld, osl, ccs, csl, qual, cda, cc, vs, tf, a1, a2, p0, p1, p2, p3, p4, p5, q1, q2, q3, q4, k, ho, _⟩ := T.fn
  intro pins s σ H Q I h
  have B : L2.Binds X.K (PySem.W.fnX "__init__" qual (iniA f a1 a2) (iniB f text p0 p1 p2 p3 p4 p5 q1 q2 q3 q4 k) (iniS f) [("__class__", cc)] .none kV doc pm an (.ref cda) ct) ["self", f] [] := Binds.all fun us hl => by
    match us, hl with
    | [y, u], _ => exact hbf a1 a2 _ y u rfl rfl
  refine pmk_oex (CX := CX0) (fI := fI) (sp := spIniE C f) (dvs := []) (T.oex sb ty) T.ini T.tI (ok_ini T S ho) hr B .nil pass0 hg gC (pa_cons (pe_mono he) pa_nil hs) hdb hs hpl pins s σ H Q I ?_
  refine ⟨_, fun v H1 q => ⟨by show 1 ≤ 1000; decide, fun a na => ⟨a, v, rfl, upd_same, fun d nd hd => ⟨rfl, d, [(f, v)], upd_same, ?_, ?_, ?_⟩⟩⟩, h⟩
  · rw [upd_ne hd, upd_same]
  · rw [upd_ne hd] at nd
    exact nd
  · have nd' := nd
    rw [upd_ne hd] at nd'
    have e : upd (del (upd (upd (upd H1 a (exo a C none)) d (exd d [(f, v)])) a (exo a C (some d))) a) d (.xd [(f, v)]) = upd H1 d (.xd [(f, v)]) := by
      funext b
      by_cases hb : b = d
      · rw [hb, upd_same, upd_same]
      · rw [upd_ne hb, upd_ne hb]
        by_cases ha : b = a
        · rw [ha, del_same, na]
        · rw [del_ne ha, upd_ne ha, upd_ne hb, upd_ne ha]
    rw [e]
    exact q d nd'
theorem ps_raiseI {W : WX} {pos' : Pos} (T : IniAt X.K C fI f text file) (S : SupM X.prog X.mg file f) (sb : PySem.W.subIn X.K (.ref C) (.type "BaseException") = some true) (ty : PySem.W.typeIn X.K (.ref C) = some (.type "type")) (hc : X.calm = true) (tk : Takes X W) (hr : Room 2 X.A) (gC : X.mg x = some (.ref C)) (he : PE X e te)
    (hbf : ∀ (a1 a2 : Pos) (fd : FuncData) (y u : Value), fd.params = iniA f a1 a2 → fd.defaults = .none → bindArgs fd ⟨[y, u], []⟩ = pure [(("self" : Str), y), (f, u)]) (hg : Gl X x := by rfl)
    (hdb : (x == ("__debug__" : Str)) = false := by decide) (hs : starEach (e :: []) X.env = (false, eval e X.env) :: starEach [] X.env := by rfl) (hpl : (backTo pos (starEach [] X.env)).any (·.1) = false := by rfl) :
    PS X (.Raise (some (.Call (.Name x p) [e] [] pos)) none pos') (fun _ σ H => te σ H fun v H1 => ∀ d, H1 d = none → W (.ref C) (some d) σ (upd H1 d (.xd [(f, v)]))) :=
  ps_raise hc tk (pmk_ini T S sb ty hr gC he hbf hg hdb hs hpl)
/-! ### e.f, e a held error -/
def tXfK (K : PySem.W.Frag) (f : Str) (te : TE) : TE := fun σ H Q => te σ H fun x H1 => ∃ (a C d : Addr) (v : V), x = .ref a ∧ H1 a = some (ExK (.ref C) (some d) a) ∧ H1 d = some (.xd [(f, v)]) ∧ XfC K C ∧ PySem.W.findIn K (.ref C) f = some none ∧ Q v H1
theorem pe_xfK (he : PE X e te) (hb : attributeBase e f X.env (eval e X.env) = eval e X.env := by rfl) : PE X (.Attribute e f pos) (tXfK X.K f te) := by
  refine ⟨fun pins s σ H Q I h => ?_⟩
  refine attr_of hb (thn (he.run pins s σ H _ I h) fun u s1 hh => ?_)
  obtain ⟨y, H1, I1, ry, a, C, d, v, rfl, ea, ed, T, hno, q⟩ := hh
  obtain rfl : u = Value.ref a := ry
  obtain ⟨oe, vs, ho, hz, hd⟩ := (show ObjOk X.prog X.w H1 s1.heap a (ExK (.ref C) (some d) a) from I1.hok a _ ea).1
  obtain ⟨mA, hns, hr⟩ := (show ObjOk X.prog X.w H1 s1.heap d (.xd [(f, v)]) from I1.hok d _ ed)
  obtain ⟨od, hod, hl⟩ := lookIn_ns hns
  have l : List.lookup f [(f, v)] = some v := by simp [List.lookup]
  obtain ⟨u', hu, ru⟩ := RelO.some_of (v := v) (o := mA f) (by rw [← l]; exact hr f)
  have J : PySem.W.InstAt s1.heap a oe C (some od) := ⟨ho, hz.1, by unfold PySem.W.notCls; rw [hd] <;> rfl, by rw [hz.2]; exact hod⟩
  exact HandSPX.exc_get I1.kIn J T.ga T.gg T.exC (PySem.W.findObj_own T.hdC hno rfl (by rw [hl, hu])) (handed_of ru) ⟨v, H1, I1.tok _, ru, q⟩
end
end My
/-! what isinstance says of data -/
namespace My
open PySem PySem.Spec PyProof.Rows L2 Evl
def tyD : PyData → String
  | .none => "NoneType"
  | .bool _ => "bool"
  | .int _ => "int"
  | .str _ => "str"
  | .list _ => "list"
  | .tuple _ => "tuple"
  | .dict _ => "dict"
def isTupD : PyData → Bool
  | .tuple _ => true
  | _ => false
def isIntD : PyData → Bool
  | .bool _ => true
  | .int _ => true
  | _ => false
def isBoolD : PyData → Bool
  | .bool _ => true
  | _ => false
/-- _law_is_whole of data -/
def wholeLD (d : PyData) : Bool := isIntD d && !isBoolD d
/-- is_number of data -/
def numD : PyData → Int → Int → Bool
  | .int i, lo, hi => numV (.int i) lo hi
  | _, _, _ => false
section
variable {K : PySem.W.Frag} {H : Hp}
theorem ty_sql {a : Addr} {xs : List V} (h : SqL K H a xs) : TyX K H (.ref a) (.type "list") := by
  rcases h with (h | ⟨o, h⟩) | ⟨o, its, n, h1, h2, _⟩
  · exact .base (.lst h)
  · exact .base (.frz h)
  · exact .kList h1 h2
theorem ty_dq {v : V} {d : PyData} (h : Dq K H v d) : TyX K H v (.type (tyD d)) := by
  cases h with
  | non => exact .base .non
  | bl b => exact .base (.bl b)
  | int i => exact .base (.int i)
  | str x => exact .base (.str x)
  | lst h _ => exact ty_sql h
  | tup h _ => exact ty_tup h
  | emp h => exact .base (.dK h)
theorem kit_tupD {d : PyData} : PySem.W.kitOne K (.type (tyD d)) (.type "tuple") = some (isTupD d) := by cases d <;> rfl
theorem kit_intD {d : PyData} : PySem.W.kitOne K (.type (tyD d)) (.type "int") = some (isIntD d) := by cases d <;> rfl
theorem kit_boolD {d : PyData} : PySem.W.kitOne K (.type (tyD d)) (.type "bool") = some (isBoolD d) := by cases d <;> rfl
theorem dq_int {v : V} {d : PyData} (h : Dq K H v d) : isIntV v = isIntD d := by cases h <;> rfl
theorem dq_bool {v : V} {d : PyData} (h : Dq K H v d) : isBoolV v = isBoolD d := by cases h <;> rfl
theorem dq_num {v : V} {d : PyData} (h : Dq K H v d) (lo hi : Int) : numV v lo hi = numD d lo hi := by cases h <;> rfl
theorem intq_dq {v : V} {d : PyData} (h : Dq K H v d) : IntQ K H v := by
  refine ⟨.type (tyD d), fun H' e => ty_dq (h.up e), ?_, fun _ => ?_⟩
  · rw [dq_int h]; exact kit_intD
  · rw [dq_bool h]; exact kit_boolD
theorem numD_ints {ds : List PyData} {lo hi : Int} (h : ds.all (fun d => numD d lo hi) = true) : ∃ ns : List Int, ds = ns.map .int ∧ ∀ n ∈ ns, lo ≤ n ∧ n ≤ hi := by
  induction ds with
  | nil => exact ⟨[], rfl, fun _ z => by cases z⟩
  | cons d r ih =>
    rw [List.all_cons, Bool.and_eq_true] at h
    obtain ⟨ns, rfl, hn⟩ := ih h.2
    cases d with
    | int i =>
      refine ⟨i :: ns, rfl, fun n hm => ?_⟩
      rcases List.mem_cons.mp hm with rfl | hm
      · have q : ((decide (-(10 ^ 18 : Int) < n) && decide (n < 10 ^ 18)) && (decide (lo ≤ n) && decide (n ≤ hi))) = true := h.1
        simp only [Bool.and_eq_true, decide_eq_true_eq] at q
        exact q.2
      · exact hn n hm
    | _ => cases h.1
end
/-- isinstance(x, T) by data -/
theorem ev_isiD {K : PySem.W.Frag} {σ : L2.St} {B : Hp} {te : TE} {d : PyData} {n : String} {b : Bool} (h : EvD K te σ B d) (hk : PySem.W.kitOne K (.type (tyD d)) (.type n) = some b) : Ev (tCB (rIsi K) (tCons te (tCons (tC (.ty n)) tNil))) σ B (.bl b) := fun H1 e1 Q q =>
  h B H1 (Ex.refl _) e1 _ fun v B2 H2 g hv => ⟨v, .ty n, .type (tyD d), .type n, b, rfl, .ty _, ty_dq (hv.up g.s), hk, q H2 g.h⟩
end My
namespace My
open PySem PySem.Spec PyProof.Rows L2 Evl Kpt LamX
/-! ### what stays but for the state and the tables -/
def Kx (d g : Addr) (H H' : Hp) : Prop := ∀ b o, b ≠ d → b ≠ g → (∀ ps, o ≠ .tbl ps) → H b = some o → H' b = some o
theorem Kx.kp {H H' : Hp} {d g : Addr} (k : Kp d g H H') : Kx d g H H' := fun b o h1 h2 _ h => k b o h1 h2 h
theorem Kx.xn {H H' : Hp} {d g : Addr} (e : ExtN H H') : Kx d g H H' := fun b o _ _ h3 h => e b o h h3
theorem Kx.ex {H H' : Hp} {d g : Addr} (e : Ex H H') : Kx d g H H' := fun b o _ _ _ h => e b o h
theorem Kx.trans {H H1 H2 : Hp} {d g : Addr} (a : Kx d g H H1) (b : Kx d g H1 H2) : Kx d g H H2 := fun x o h1 h2 h3 h => b x o h1 h2 h3 (a x o h1 h2 h3 h)
theorem Kx.tup {H H' : Hp} {d g c : Addr} {s : Src} {b : Addr} {ys : List V} (k : Kx d g H H') (st : StX H d g c s) (h : H b = some (.tup ys)) : H' b = some (.tup ys) :=
  k b _ (ne_of h st.1 (by intro q; cases q)) (ne_of h st.2.1 (by intro q; cases q)) tup_nt h
end My
/-! words with draws: the heap is looked at but for the state, the tables, hidden lists -/
namespace My
open PySem PySem.Spec PyProof.Rows L2 Evl Kpt LamX
/-- the state of draws stands at d (its lists at g, c), the tables of code objects, hidden lists -/
structure DA where
  T : List (Addr × Str)
  d : Addr
  g : Addr
  c : Addr
  S : List Addr
def lim : Nat := 1000000000
/-- the source stands, its turn is at most t -/
def ST (D : DA) (H : Hp) (t : Nat) : Prop := (∃ s, StX H D.d D.g D.c s ∧ 0 ≤ s.turn ∧ s.turn ≤ (t : Int)) ∧ Tabs D.T H ∧ ∀ a ∈ D.S, a ≠ D.g ∧ a ≠ D.c ∧ ∃ xs, H a = some (.lst xs)
/-- what is looked at -/
def Vw (D : DA) (H : Hp) : Hp := fun a => if a = D.d ∨ a = D.g ∨ a ∈ D.S then none else match H a with
  | some (.tbl _) => none
  | o => o
section
variable {D : DA} {H H' : Hp} {t n m : Nat}
theorem vw_get {a : Addr} {o : HO} (h1 : a ≠ D.d) (h2 : a ≠ D.g) (h3 : a ∉ D.S) (h : H a = some o) (ht : ∀ ps, o ≠ .tbl ps) : Vw D H a = some o := by
  unfold Vw
  rw [if_neg (by simp [h1, h2, h3]), h]
  cases o <;> first | rfl | exact absurd rfl (ht _)
theorem vw_of {a : Addr} {o : HO} (h : Vw D H a = some o) : a ≠ D.d ∧ a ≠ D.g ∧ a ∉ D.S ∧ H a = some o ∧ ∀ ps, o ≠ .tbl ps := by
  unfold Vw at h
  by_cases z : a = D.d ∨ a = D.g ∨ a ∈ D.S
  · rw [if_pos z] at h; cases h
  · rw [if_neg z] at h
    refine ⟨fun e => z (.inl e), fun e => z (.inr (.inl e)), fun e => z (.inr (.inr e)), ?_⟩
    cases q : H a with
    | none => rw [q] at h; cases h
    | some u =>
      rw [q] at h
      cases u <;> first | (cases h; exact ⟨rfl, fun ps z => by cases z⟩) | cases h
theorem vw_ex : Ex (Vw D H) H := fun a o h => (vw_of h).2.2.2.1
theorem vw_nd : Vw D H D.d = none := by unfold Vw; rw [if_pos (.inl rfl)]
theorem vw_ng : Vw D H D.g = none := by unfold Vw; rw [if_pos (.inr (.inl rfl))]
theorem vw_nt : ∀ a ps, Vw D H a ≠ some (.tbl ps) := fun a ps h => (vw_of h).2.2.2.2 ps rfl
theorem vw_kx (k : Kx D.d D.g H H') : Ex (Vw D H) (Vw D H') := fun a o h => by
  obtain ⟨h1, h2, h3, h4, h5⟩ := vw_of h
  exact vw_get h1 h2 h3 (k a o h1 h2 h5 h4) h5
theorem Kx.refl {d g : Addr} : Kx d g H H := fun _ _ _ _ _ h => h
theorem ST.up (h : ST D H t) (e : Ex H H') : ST D H' t := ⟨let ⟨s, h1, h2⟩ := h.1; ⟨s, h1.up e, h2⟩, h.2.1.ext e, fun a ha => let ⟨h1, h2, xs, h3⟩ := h.2.2 a ha; ⟨h1, h2, xs, e _ _ h3⟩⟩
theorem ST.mono (h : ST D H t) (e : t ≤ n) : ST D H n := ⟨let ⟨s, h1, h2, h3⟩ := h.1; ⟨s, h1, h2, by omega⟩, h.2⟩
theorem ST.xn (h : ST D H t) (e : ExtN H H') (T' : Tabs D.T H') : ST D H' t := ⟨let ⟨s, h1, h2⟩ := h.1; ⟨s, h1.xn e, h2⟩, T', fun a ha => let ⟨h1, h2, xs, h3⟩ := h.2.2 a ha; ⟨h1, h2, xs, ExtN.lst e h3⟩⟩
theorem ST.nd (h : ST D H t) : ∃ ps, H D.d = some (.dK ps) := let ⟨s, h1, _⟩ := h.1; ⟨_, h1.1⟩
theorem ST.ng (h : ST D H t) : ∃ xs, H D.g = some (.lst xs) := let ⟨s, h1, _⟩ := h.1; ⟨_, h1.2.1⟩
theorem ST.nc (h : ST D H t) : ∃ xs, H D.c = some (.lst xs) := let ⟨s, h1, _⟩ := h.1; ⟨_, h1.2.2.1⟩
/-- nothing that is looked at stands there -/
def Nw (H : Hp) (p : Addr) : Prop := ∀ o, H p = some o → ∃ ps, o = .tbl ps
theorem nw_none {p : Addr} (h : H p = none) : Nw H p := fun o e => by rw [h] at e; cases e
theorem nw_ne {p a : Addr} {o : HO} (hp : Nw H p) (h : H a = some o) (ht : ∀ ps, o ≠ .tbl ps) : p ≠ a := fun z => by
  subst z
  obtain ⟨ps, e⟩ := hp o h
  exact ht ps e
theorem dk_nt {xs : List (Key × V)} : ∀ ps, HO.dK xs ≠ .tbl ps := fun _ z => by cases z
theorem ST.fresh (h : ST D H t) {p : Addr} (hp : Nw H p) : p ≠ D.d ∧ p ≠ D.g ∧ p ≠ D.c ∧ p ∉ D.S := by
  obtain ⟨ps, e1⟩ := h.nd
  obtain ⟨xs, e2⟩ := h.ng
  obtain ⟨ys, e3⟩ := h.nc
  refine ⟨nw_ne hp e1 dk_nt, nw_ne hp e2 lst_nt, nw_ne hp e3 lst_nt, fun z => ?_⟩
  obtain ⟨_, _, zs, e4⟩ := h.2.2 p z
  exact nw_ne hp e4 lst_nt rfl
theorem nw_back {H2 : Hp} (s : ST D H2 t) (k : Kx D.d D.g H H2) {p : Addr} (hp : Nw H2 p) : Nw H p := fun o e => by
  have f := s.fresh hp
  by_cases z : ∃ ps, o = .tbl ps
  · exact z
  · exact hp o (k p o f.1 f.2.1 (fun ps e => z ⟨ps, e⟩) e)
theorem Kx.own {d g l : Addr} {o : HO} (k : Kx d g H H') (hl : Nw H l) : Kx d g H (upd H' l o) := fun b x h1 h2 h3 h => (upd_ne (fun z => nw_ne hl h h3 z.symm)).trans (k b x h1 h2 h3 h)
/-- draws were done -/
theorem ST.kp {s : Src} (h : ST D H t) (k : Kp D.d D.g H H') (st : StX H' D.d D.g D.c s) (h0 : 0 ≤ s.turn) (h1 : s.turn ≤ (n : Int)) : ST D H' n := by
  obtain ⟨⟨s0, e1, _⟩, e2, e3⟩ := h
  exact ⟨⟨s, st, h0, h1⟩, tabs_kp e1 k e2, fun a ha => let ⟨h1, h2, xs, h3⟩ := e3 a ha; ⟨h1, h2, xs, k a _ (ne_of h3 e1.1 (by intro q; cases q)) h1 h3⟩⟩
theorem tabs_own {T : List (Addr × Str)} {l : Addr} {xs : List V} {o : HO} (h : Tabs T H) (hl : H l = some (.lst xs)) : Tabs T (upd H l o) := fun p hp => by
  obtain ⟨ps, h1, h2, h3⟩ := h p hp
  refine ⟨ps, (upd_ne (ne_of h1 hl (by intro q; cases q))).trans h1, h2, fun pos cv hc => ?_⟩
  obtain ⟨c', e1, e2⟩ := h3 pos cv hc
  exact ⟨c', e1, (upd_ne (ne_of e2 hl (by intro q; cases q))).trans e2⟩
/-- an own list is written -/
theorem ST.own {l : Addr} {xs ys : List V} (h : ST D H t) (hl : H l = some (.lst xs)) (h1 : l ≠ D.g) (h2 : l ≠ D.c) : ST D (upd H l (.lst ys)) t := by
  obtain ⟨⟨s0, e1, e2⟩, e3, e4⟩ := h
  refine ⟨⟨s0, e1.own (ne_of hl e1.1 (by intro q; cases q)) h1 h2, e2⟩, tabs_own e3 hl, fun a ha => ?_⟩
  obtain ⟨k1, k2, zs, k3⟩ := e4 a ha
  by_cases z : a = l
  · exact ⟨k1, k2, ys, by rw [z, upd_same]⟩
  · exact ⟨k1, k2, zs, (upd_ne z).trans k3⟩
theorem vw_own {l : Addr} {o : HO} (h : l ∈ D.S) : Vw D (upd H l o) = Vw D H := by
  funext a
  unfold Vw
  by_cases z : a = D.d ∨ a = D.g ∨ a ∈ D.S
  · rw [if_pos z, if_pos z]
  · have q : a ≠ l := fun e => z (.inr (.inr (by rw [e]; exact h)))
    rw [if_neg z, if_neg z, upd_ne q]
/-- what the pure words bring -/
theorem gr_vw {B' : Hp} (h : ST D H t) (g : Gr (Vw D H) H B' H') : Ex B' (Vw D H') ∧ Kx D.d D.g H H' ∧ ST D H' t := by
  refine ⟨fun a o e => ?_, Kx.ex g.h, h.up g.h⟩
  refine vw_get (fun z => ?_) (fun z => ?_) (fun z => ?_) (g.s _ _ e) (fun ps z => ?_)
  · subst z
    obtain ⟨ps, e1⟩ := h.nd
    have := g.n D.d vw_nd (by rw [e1]; exact fun z => by cases z)
    rw [this] at e
    cases e
  · subst z
    obtain ⟨ps, e1⟩ := h.ng
    have := g.n D.g vw_ng (by rw [e1]; exact fun z => by cases z)
    rw [this] at e
    cases e
  · obtain ⟨_, _, xs, e1⟩ := h.2.2 a z
    have h0 : Vw D H a = none := by unfold Vw; rw [if_pos (.inr (.inr z))]
    have := g.n a h0 (by rw [e1]; exact fun z => by cases z)
    rw [this] at e
    cases e
  · subst z
    exact vw_nt _ _ (g.t _ _ e)
end
/-! ### words -/
section
variable (K : PySem.W.Frag) (D : DA)
def EvX (te : TE) (σ : L2.St) (H : Hp) (n : Nat) (P : PyData → Prop) : Prop := ∀ H1 t, Kx D.d D.g H H1 → ST D H1 t → t + n ≤ lim → ∀ Q : VK, (∀ v H2 dd, Kx D.d D.g H1 H2 → ST D H2 (t + n) → Dq K (Vw D H2) v dd → P dd → Q v H2) → te σ H1 Q
def EaX (ta : TA) (σ : L2.St) (H : Hp) (n : Nat) (P : List PyData → Prop) : Prop := ∀ H1 t, Kx D.d D.g H H1 → ST D H1 t → t + n ≤ lim → ∀ Q : List V → Hp → Prop, (∀ vs H2 ds, Kx D.d D.g H1 H2 → ST D H2 (t + n) → DqAll K (Vw D H2) vs ds → P ds → Q vs H2) → ta σ H1 Q
def EtX (tt : TT) (σ : L2.St) (H : Hp) (n : Nat) (P : Bool → Prop) : Prop := ∀ H1 t, Kx D.d D.g H H1 → ST D H1 t → t + n ≤ lim → ∀ R : Bool → Hp → Prop, (∀ b H2, Kx D.d D.g H1 H2 → ST D H2 (t + n) → P b → R b H2) → tt σ H1 R
/-- a new list -/
def EnX (te : TE) (σ : L2.St) (H : Hp) (n : Nat) (P : List PyData → Prop) : Prop := ∀ H1 t, Kx D.d D.g H H1 → ST D H1 t → t + n ≤ lim → ∀ Q : VK, (∀ p xs H2 ds, Kx D.d D.g H1 H2 → ST D H2 (t + n) → Nw H1 p → H2 p = some (.lst xs) → DqAll K (Vw D H2) xs ds → P ds → Q (.ref p) H2) → te σ H1 Q
/-- a list that stands -/
def ElX (te : TE) (σ : L2.St) (H : Hp) (n : Nat) (P : List PyData → Prop) : Prop := ∀ H1 t, Kx D.d D.g H H1 → ST D H1 t → t + n ≤ lim → ∀ Q : VK, (∀ p xs H2 ds, Kx D.d D.g H1 H2 → ST D H2 (t + n) → p ≠ D.g → H2 p = some (.lst xs) → DqAll K (Vw D H2) xs ds → P ds → Q (.ref p) H2) → te σ H1 Q
end
section
variable {K : PySem.W.Frag} {D : DA} {σ : L2.St} {H H' : Hp} {te ta tb : TE} {tl : TA} {d e : PyData} {ds es : List PyData} {n m : Nat} {P P' P'' : PyData → Prop} {L L' : List PyData → Prop}
theorem Dq.kx {v : V} (k : Kx D.d D.g H H') (h : Dq K (Vw D H) v d) : Dq K (Vw D H') v d := h.up (vw_kx k)
theorem DqAll.kx {vs : List V} (k : Kx D.d D.g H H') (h : DqAll K (Vw D H) vs ds) : DqAll K (Vw D H') vs ds := h.up (vw_kx k)
theorem EvX.kx (h : EvX K D te σ H n P) (k : Kx D.d D.g H H') : EvX K D te σ H' n P := fun H1 t k1 => h H1 t (k.trans k1)
theorem EaX.kx (h : EaX K D tl σ H n L) (k : Kx D.d D.g H H') : EaX K D tl σ H' n L := fun H1 t k1 => h H1 t (k.trans k1)
theorem EnX.kx (h : EnX K D te σ H n L) (k : Kx D.d D.g H H') : EnX K D te σ H' n L := fun H1 t k1 => h H1 t (k.trans k1)
theorem ElX.kx (h : ElX K D te σ H n L) (k : Kx D.d D.g H H') : ElX K D te σ H' n L := fun H1 t k1 => h H1 t (k.trans k1)
theorem EvX.mono (h : EvX K D te σ H n P) (hn : n ≤ m) (hp : ∀ dd, P dd → P' dd) : EvX K D te σ H m P' := fun H1 t k1 st l Q q => h H1 t k1 st (by omega) Q fun v H2 dd k s v2 p => q v H2 dd k (s.mono (by omega)) v2 (hp _ p)
theorem EaX.mono (h : EaX K D tl σ H n L) (hn : n ≤ m) (hp : ∀ dd, L dd → L' dd) : EaX K D tl σ H m L' := fun H1 t k1 st l Q q => h H1 t k1 st (by omega) Q fun v H2 dd k s v2 p => q v H2 dd k (s.mono (by omega)) v2 (hp _ p)
theorem EnX.mono (h : EnX K D te σ H n L) (hn : n ≤ m) (hp : ∀ dd, L dd → L' dd) : EnX K D te σ H m L' := fun H1 t k1 st l Q q => h H1 t k1 st (by omega) Q fun p xs H2 dd k s h1 h2 v2 pp => q p xs H2 dd k (s.mono (by omega)) h1 h2 v2 (hp _ pp)
theorem ElX.mono (h : ElX K D te σ H n L) (hn : n ≤ m) (hp : ∀ dd, L dd → L' dd) : ElX K D te σ H m L' := fun H1 t k1 st l Q q => h H1 t k1 st (by omega) Q fun p xs H2 dd k s h1 h2 v2 pp => q p xs H2 dd k (s.mono (by omega)) h1 h2 v2 (hp _ pp)
theorem EtX.mono {tt : TT} {P P' : Bool → Prop} (h : EtX D tt σ H n P) (hn : n ≤ m) (hp : ∀ b, P b → P' b) : EtX D tt σ H m P' := fun H1 t k1 st l Q q => h H1 t k1 st (by omega) Q fun b H2 k s p => q b H2 k (s.mono (by omega)) (hp _ p)
/-- a pure word -/
theorem ex_D (h : EvD K te σ (Vw D H) d) : EvX K D te σ H 0 (· = d) := fun H1 t k st _ Q q => h (Vw D H1) H1 (vw_kx k) vw_ex _ fun v B2 H2 g hv => by
  obtain ⟨g1, g2, g3⟩ := gr_vw st g
  exact q v H2 d g2 g3 (hv.up g1) rfl
theorem ea_D (h : EaD K tl σ (Vw D H) ds) : EaX K D tl σ H 0 (· = ds) := fun H1 t k st _ Q q => h (Vw D H1) H1 (vw_kx k) vw_ex _ fun v B2 H2 g hv => by
  obtain ⟨g1, g2, g3⟩ := gr_vw st g
  exact q v H2 ds g2 g3 (hv.up g1) rfl
theorem en_D (h : EvN K te σ (Vw D H) ds) : EnX K D te σ H 0 (· = ds) := fun H1 t k st _ Q q => h (Vw D H1) H1 (vw_kx k) vw_ex _ fun p xs B2 H2 g h1 h2 h3 h4 => by
  obtain ⟨g1, g2, g3⟩ := gr_vw st g
  exact q p xs H2 ds g2 g3 (nw_none h1) h3 (h4.up g1) rfl
theorem et_D {tt : TT} {b : Bool} (h : EvT tt σ (Vw D H) b) : EtX D tt σ H 0 (· = b) := fun H1 t k st _ Q q => h H1 ((vw_kx k).trans vw_ex) _ fun H2 e2 => q b H2 (Kx.ex e2) (st.up e2) rfl
theorem el_N (h : EnX K D te σ H n L) : ElX K D te σ H n L := fun H1 t k st l Q q => h H1 t k st l Q fun p xs H2 ds k2 s2 h1 h2 h3 h4 => q p xs H2 ds k2 s2 (st.fresh h1).2.1 h2 h3 h4
theorem ex_L (h : EnX K D te σ H n L) : EvX K D te σ H n (fun dd => ∃ ds, dd = .list ds ∧ L ds) := fun H1 t k st l Q q => h H1 t k st l Q fun p xs H2 ds k2 s2 h1 h2 h3 h4 => by
  have f := st.fresh h1
  exact q _ H2 (.list ds) k2 s2 (.lst (SqL.of (vw_get f.1 f.2.1 f.2.2.2 h2 lst_nt)) h3) ⟨ds, rfl, h4⟩
/-- one behind another -/
theorem eax_nil : EaX K D tNil σ H 0 (· = []) := fun H1 t k st _ Q q => q [] H1 [] Kx.refl st .nil rfl
theorem eax_cons {tr : TA} (h : EvX K D te σ H n P) (hr : EaX K D tr σ H m L) : EaX K D (tCons te tr) σ H (n + m) (fun ds => ∃ d r, ds = d :: r ∧ P d ∧ L r) := fun H1 t k st l Q q =>
  h H1 t k st (by omega) _ fun v H2 dd k2 s2 hv p => hr H2 (t + n) (k.trans k2) s2 (by omega) _ fun vs H3 es k3 s3 hvs pl => q _ H3 (dd :: es) (k2.trans k3) (by rw [← Nat.add_assoc]; exact s3) (.cons (hv.kx k3) hvs) ⟨dd, es, rfl, p, pl⟩
theorem ex_op {r : R2} (ha : EvX K D ta σ H n P) (hb : EvX K D tb σ H m P') (hr : ∀ x y a b B, Dq K B x a → Dq K B y b → P a → P' b → ∃ e, EvD K (tOp r (tC x) (tC y)) σ B e ∧ P'' e) : EvX K D (tOp r ta tb) σ H (n + m) P'' := fun H1 t k st l Q q =>
  ha H1 t k st (by omega) _ fun x H2 a k2 s2 hx pa => hb H2 (t + n) (k.trans k2) s2 (by omega) _ fun y H3 b k3 s3 hy pb => by
    obtain ⟨e, he, pe⟩ := hr x y a b (Vw D H3) (hx.kx k3) hy pa pb
    exact he (Vw D H3) H3 (Ex.refl _) vw_ex _ fun v B2 H4 g hv => by
      obtain ⟨g1, g2, g3⟩ := gr_vw s3 g
      exact q v H4 e ((k2.trans k3).trans g2) (by rw [← Nat.add_assoc]; exact g3) (hv.up g1) pe
/-- values from a row of arguments -/
def tVs (vs : List V) : TA := fun _ H Q => Q vs H
theorem ead_vs {vs : List V} {B : Hp} (h : DqAll K B vs ds) : EaD K (tVs vs) σ B ds := fun B1 H1 e s Q q => q vs B1 H1 (.refl s) (h.up e)
theorem ex_args {tf : TA → TE} (hf : ∀ ta σ H Q, tf ta σ H Q = ta σ H fun vs H1 => tf (tVs vs) σ H1 Q) (ha : EaX K D tl σ H n L) (hr : ∀ vs ds B, DqAll K B vs ds → L ds → ∃ e, EvD K (tf (tVs vs)) σ B e ∧ P e) : EvX K D (tf tl) σ H n P := fun H1 t k st l Q q => by
  rw [hf]
  exact ha H1 t k st l _ fun vs H2 ds k2 s2 hv pl => by
    obtain ⟨e, he, pe⟩ := hr vs ds (Vw D H2) hv pl
    exact he (Vw D H2) H2 (Ex.refl _) vw_ex _ fun v B2 H4 g hv => by
      obtain ⟨g1, g2, g3⟩ := gr_vw s2 g
      exact q v H4 e (k2.trans g2) g3 (hv.up g1) pe
theorem ex_tup (ha : EaX K D tl σ H n L) (hl : ∀ ds, L ds → ds.length ≤ 100000) : EvX K D (tTup tl) σ H n (fun dd => ∃ ds, dd = .tuple ds ∧ L ds) :=
  ex_args (tf := tTup) (fun _ _ _ _ => rfl) ha fun vs ds B hv pl => ⟨.tuple ds, ed_tup (ead_vs hv) (hl ds pl), ds, rfl, pl⟩
theorem enx_lst (ha : EaX K D tl σ H n L) (hl : ∀ ds, L ds → ds.length ≤ 100000) : EnX K D (tLst tl) σ H n L := fun H1 t k st l Q q => by
  show tl σ H1 (fun vs H2 => tLst (tVs vs) σ H2 Q)
  exact ha H1 t k st l _ fun vs H2 ds k2 s2 hv pl => en_lst (ead_vs hv) (hl ds pl) (Vw D H2) H2 (Ex.refl _) vw_ex _ fun p xs B2 H4 g h1 h2 h3 h4 => by
    obtain ⟨g1, g2, g3⟩ := gr_vw s2 g
    have hp1 : Nw H1 p := nw_back s2 k2 (nw_none h1)
    exact q p xs H4 ds (k2.trans g2) g3 hp1 h3 (h4.up g1) pl
/-- a def of data -/
theorem ex_fn {R : List PyData → PyData → Prop} {E : XK} (ha : EaX K D tl σ H n L) (hr : ∀ ds, L ds → ∃ d, R ds d ∧ P d) : EvX K D (tCall (spFn K R) [] E tl) σ H n P := fun H1 t k st l Q q =>
  ha H1 t k st l _ fun vs H2 ds k2 s2 hv pl => by
    obtain ⟨d, h1, h2⟩ := hr ds pl
    refine ⟨Vw D H2, ds, d, vw_ex, by rw [List.append_nil]; exact hv, h1, fun v B2 H4 g hw => ?_⟩
    obtain ⟨g1, g2, g3⟩ := gr_vw s2 g
    exact q v H4 d (k2.trans g2) g3 (hw.up g1) h2
/-- a number below n is drawn -/
def PInt (lo hi : Int) (dd : PyData) : Prop := ∃ j : Int, dd = .int j ∧ lo ≤ j ∧ j < hi
theorem ex_draw {E : XK} {i : Nat} {tn : TE} {z : Int} (hi : σ[i]? = some (some (.ref D.d))) (hn : EvX K D tn σ H n (PInt 1 (z + 1))) (h1 : z < 1073741824) : EvX K D (tCall spDraw [] E (tCons (tVar i) (tCons tn tNil))) σ H (n + 1) (PInt 0 z) := fun H1 t k st l Q q =>
  ⟨_, hi, hn H1 t k st (by omega) _ fun v H2 dd k2 s2 hv p => by
    obtain ⟨j, rfl, j1, j2⟩ := p
    rw [hv.int_eq]
    obtain ⟨⟨s, hs, t0, t1⟩, hT, hS⟩ := id s2
    have hl : t + n < lim := by omega
    have hlim : lim = 1000000000 := rfl
    refine ⟨D.d, D.g, D.c, s, j, rfl, hs, t0, by omega, by omega, by omega, fun H3 st3 k3 => ?_⟩
    obtain ⟨v0, v1⟩ := val_in s (show 0 < j by omega)
    obtain ⟨n0, n1⟩ := next_turn s j
    exact q _ H3 (.int (s.val j)) (k2.trans (Kx.kp k3)) (s2.kp k3 st3 (by omega) (by omega)) (.int _) ⟨_, rfl, v0, by omega⟩⟩
theorem pint_c {z lo hi : Int} (h : lo ≤ z ∧ z < hi) : PInt lo hi (.int z) := ⟨z, rfl, h.1, h.2⟩
theorem ex_int {z lo hi : Int} (h : EvD K te σ (Vw D H) (.int z)) (hz : lo ≤ z ∧ z < hi) : EvX K D te σ H 0 (PInt lo hi) := (ex_D h).mono (Nat.le_refl _) fun _ e => e ▸ pint_c hz
/-- one of a list is drawn -/
theorem ex_pick {E : XK} {i : Nat} (hi : σ[i]? = some (some (.ref D.d))) (hl : ElX K D te σ H n L) (h1 : ∀ ds, L ds → 0 < ds.length ∧ ds.length < 1000000) : EvX K D (tCall spPick [] E (tCons (tVar i) (tCons te tNil))) σ H (n + 1) (fun dd => ∃ ds, L ds ∧ dd ∈ ds) := fun H1 t k st l Q q =>
  ⟨_, hi, hl H1 t k st (by omega) _ fun p xs H2 ds k2 s2 hpg hp hx pl => by
    obtain ⟨⟨s, hs, t0, t1⟩, hT, hS⟩ := id s2
    have hlim : lim = 1000000000 := rfl
    obtain ⟨l0, l1⟩ := h1 ds pl
    have hxl := hx.len
    refine ⟨D.d, D.g, D.c, p, s, xs, rfl, hs, t0, by omega, hp, hpg, by omega, by omega, fun H3 v st3 k3 hv => ?_⟩
    obtain ⟨dd, h3, h4⟩ := hx.at_ _ v hv
    obtain ⟨n0, n1⟩ := next_turn s xs.length
    exact q v H3 dd (k2.trans (Kx.kp k3)) (s2.kp k3 st3 (by omega) (by omega)) (h4.kx (Kx.kp k3)) ⟨ds, pl, List.mem_of_getElem? h3⟩⟩
/-- tests -/
theorem etx_val {z : Bool → Prop} (h : EvX K D te σ H n (fun dd => ∃ b, dd = .bool b ∧ z b)) : EtX D (tB te) σ H n z := fun H1 t k st l R q =>
  h H1 t k st l _ fun v H2 dd k2 s2 hv p => by
    obtain ⟨b, rfl, hb⟩ := p
    rw [hv.bl_eq]
    exact ⟨b, rfl, q b H2 k2 s2 hb⟩
end
end My
/-! _law_mixed of data -/
namespace My
open PySem PySem.Spec PyProof.Rows L2 Evl Kpt LamX
theorem perm_eraseG {α : Type} : ∀ (ys : List α) (j : Nat) (h : j < ys.length), (ys[j] :: ys.eraseIdx j).Perm ys
  | y :: r, 0, _ => .refl _
  | y :: r, j + 1, h => (List.Perm.swap y (r[j]'(Nat.lt_of_succ_lt_succ h)) (r.eraseIdx j)).trans ((perm_eraseG r j (Nat.lt_of_succ_lt_succ h)).cons y)
theorem DqAll.erase {K : PySem.W.Frag} {H : Hp} : ∀ {vs : List V} {ds : List PyData} (j : Nat), DqAll K H vs ds → DqAll K H (vs.eraseIdx j) (ds.eraseIdx j)
  | _, _, _, .nil => .nil
  | _, _, 0, .cons _ r => r
  | _, _, j + 1, .cons h r => .cons h (DqAll.erase j r)
/-- an item of a list that may be compared -/
structure CmI (d : PyData) : Prop where
  nd : d.hasDict = false
  lay : PyData.canLay0 d = true
  dp : d.depth ≤ 2
theorem cmi_all : ∀ {ds : List PyData}, (∀ d ∈ ds, CmI d) → PyData.hasDictAll ds = false ∧ PyData.canLayAll0 ds = true ∧ PyData.depthAll ds ≤ 2
  | [], _ => by simp [PyData.hasDictAll, PyData.canLayAll0, PyData.depthAll]
  | d :: r, h => by
    obtain ⟨h1, h2, h3⟩ := cmi_all (ds := r) fun x hx => h x (List.mem_cons_of_mem _ hx)
    obtain ⟨k1, k2, k3⟩ := h d List.mem_cons_self
    simp [PyData.hasDictAll, PyData.canLayAll0, PyData.depthAll, h1, h2, k1, k2]
    omega
theorem cmp_list {ds : List PyData} (h : ∀ d ∈ ds, CmI d) : Cmp (.list ds) := by
  obtain ⟨h1, h2, h3⟩ := cmi_all h
  refine ⟨by rw [PyData.hasDict]; exact h1, ?_⟩
  have h5 : PyData.canLay0 (.list ds) = true := by unfold PyData.canLay0; exact h2
  have h6 : PyData.depth (.list ds) ≤ 3 := by
    show PyData.depthAll ds + 1 ≤ 3
    omega
  unfold SeqAt.shaped
  rw [h5, decide_eq_true (Nat.le_trans h6 (by decide))]
  rfl
theorem cmi_int (i : Int) : CmI (.int i) := ⟨by simp [PyData.hasDict], by simp [PyData.canLay0], by simp [PyData.depth]⟩
theorem cmi_pr (p : Int × Int) : CmI (prD p) := by
  unfold prD
  exact ⟨by simp [PyData.hasDict, PyData.hasDictAll], by simp [PyData.canLay0, PyData.canLayAll0], by simp [PyData.depth, PyData.depthAll]⟩
/-- xs != [], xs an own list -/
theorem et_neD {K : PySem.W.Frag} {σ : L2.St} {H0 H : Hp} {i : Nat} {l : Addr} {xs : List V} {ds : List PyData} (hi : σ[i]? = some (some (.ref l))) (hl : H l = some (.lst xs)) (s : Ex H0 H) (hx : DqAll K H0 xs ds) (hc : ∀ d ∈ ds, CmI d) : EvT (tTest (tOp (rNeD K) (tVar i) (tLst tNil))) σ H (!ds.isEmpty) :=
  et_test (ev_opL (ev_var hi) (el_lst ea_nil (Nat.zero_le _)) fun p H1 hp e1 => rv_val fun H2 e2 Q q => by
    have c1 := cmp_list hc
    have c2 : Cmp (.list []) := cmp_list (ds := []) fun _ h => by cases h
    refine ⟨.list ds, .list [], (Dq.lst (SqL.of ((e1.trans e2) _ _ hl)) ((hx.up s).up (e1.trans e2))).dp c1.nd, Dp.lst (SqL.of (e2 _ _ hp)) .nil, c1.sh, c2.sh, ?_⟩
    rw [eqv_nil]
    exact q)
section
variable {P : Program} {w : World} {K : PySem.W.Frag} {mg : Str → Option Value} {base : Heap}
def spMixD (K : PySem.W.Frag) : Sp := fun vs H Q _ => ∃ (D : DA) (t : Nat) (a : Addr) (xs : List V) (ds : List PyData), vs = [.ref D.d, .ref a] ∧ ST D H t ∧ t + ds.length ≤ lim ∧ (SqL K H a xs ∨ SqT K H a xs) ∧ DqAll K (Vw D H) xs ds ∧ (∀ d ∈ ds, CmI d) ∧ ds.length ≤ 1000 ∧
  ∀ (H' : Hp) (p : Addr) (ys : List V) (es : List PyData), ST D H' (t + ds.length) → Kx D.d D.g H H' → Nw H p → H' p = some (.lst ys) → DqAll K (Vw D H') ys es → es.Perm ds → Q (.ref p) H'
theorem ok_mixD {f fD fB : Addr} {fd fdD fdB : FuncData} (F : Fun K "_law_mixed" "_law_mixed" s_law_mixed f fd) (B : DrB mg) (M : MxB mg) (FB : Fun K "_law_blended" "_law_blended" sBlended fB fdB) (mgB : mg "_law_blended" = some (.ref fB))
    (FD : Fun K "_law_draw" "_law_draw" sDraw fD fdD) (mgD : mg "_law_draw" = some (.ref fD)) : FnOk P w K mg base CX0 3 f fd ["state", "several"] (spMixD K) := by
  have GD : FnOk P w K mg base CX0 2 fD fdD ["state", "size_here"] spDraw := ok_draw FD B FB mgB
  have bD : Binds K fdD ["state", "size_here"] [] := FD.binds (ps := ["state", "size_here"]) fun _ _ _ _ _ _ us hl => match us, hl with | [_, _], _ => rfl
  refine F.ok scMx (fun vs H Q E h => ?_) (fun cdv A outer s H vs Q E hr h => ?_)
  · obtain ⟨D, t, a, xs, ds, rfl, _⟩ := h
    rfl
  · obtain ⟨D, t, a, xs, ds, rfl, hST, tl, hS, hD, hI, hl, k⟩ := h
    obtain ⟨⟨s0, hst, t0, t1⟩, hT, hSS⟩ := id hST
    have hlim : lim = 1000000000 := rfl
    have hxl := hD.len
    refine ⟨_, pss_cons (ps_par (i := 2) (j := 3) rfl scMx.nd rfl rfl (by decide) rfl rfl (pa_cons (pe_callTy call_list_of (by rfl) M.list (by decide +kernel) (pa_cons (pv 1) pa_nil)) (pa_cons (pe_lst pa_nil) pa_nil)) (by rfl))
      (pss_cons (ps_while PassesOwn.never (pt_cmpR (op_neD hr.units) (pv 2) (pe_lst pa_nil) (nomark _))
        (pss_one (ps_expr (pe_bm PySem.F.plainAttrs_list PySem.F.slot_list_append PySem.F.type_list_append mt_append (pv 3)
          (pa_cons (pe_bm PySem.F.plainAttrs_list PySem.F.slot_list_pop PySem.F.type_list_pop mt_popAt (pv 2) (pa_cons (pe_call GD hr (by rfl) mgD FD.kp bD .nil pass0 (pa_cons (pv 0) (pa_cons (pe_callB call_len_seq (by rfl) M.len PySem.boot_len (pa_cons (pv 2) pa_nil)) pa_nil))) pa_nil)) pa_nil)))))
      (pss_one (ps_ret (pv 3)))), ?_⟩
    refine ⟨_, rfl, a, xs, rfl, hS, fun l hlN => ?_⟩
    refine ⟨Nat.zero_le _, fun f0 hfN => ⟨_, _, rfl, ?_⟩⟩
    have nlf : l ≠ f0 := fun z => by
      rw [← z, upd_same] at hfN
      cases hfN
    have hf0 : H f0 = none := by
      rw [upd_ne nlf.symm] at hfN
      exact hfN
    have e2 : Ex H (upd (upd H l (.lst xs)) f0 (.lst [])) := (Ex.new hlN).trans (Ex.new hfN)
    have fl := hST.fresh (nw_none hlN)
    have ff := hST.fresh (nw_none hf0)
    let Pv : Nat → L2.St → Hp → Prop := fun m σ' H' => ∃ (s' : Src) (ys zs : List V) (es us : List PyData), σ' = [some (.ref D.d), some (.ref a), some (.ref l), some (.ref f0)] ∧ StX H' D.d D.g D.c s' ∧ s0.turn ≤ s'.turn ∧ s'.turn ≤ s0.turn + zs.length ∧ H' l = some (.lst ys) ∧ H' f0 = some (.lst zs) ∧
      (us ++ es).Perm ds ∧ DqAll K (Vw D H) ys es ∧ DqAll K (Vw D H) zs us ∧ m = ys.length ∧ Kp D.d D.g H H'
    show tSeq (tWhile _ _) _ _ _ _
    refine s_while (D := { nx := _, rt := _ }) Pv xs.length ⟨s0, xs, [], ds, [], rfl, hst.up e2, Int.le_refl _, by show s0.turn ≤ s0.turn + 0; omega, by rw [upd_ne nlf, upd_same], upd_same, List.Perm.refl _, hD, .nil, rfl, Kp.of e2⟩ ?_
    rintro m σ' H' ⟨s', ys, zs, es, us, rfl, st, tlo, thi, hl', hf', pm, dy, dz, rfl, kp⟩
    have hle : es.length = ys.length := dy.len.symm
    have hlu : us.length = zs.length := dz.len.symm
    have hzs : zs.length + ys.length = xs.length := by
      have := pm.length_eq
      rw [List.length_append] at this
      omega
    have cE : ∀ d ∈ es, CmI d := fun d hd => hI d (pm.mem_iff.mp (List.mem_append_right _ hd))
    have vx : Ex (Vw D H) H' := (vw_kx (Kx.kp kp)).trans vw_ex
    refine ⟨_, et_neD (K := K) rfl hl' vx dy cE, fun hb H1 e1 => ?_, fun hb H1 e1 => ?_⟩
    · have hn : 0 < ys.length := by
        cases es with
        | nil => cases hb
        | cons _ _ => rw [← hle]; exact Nat.succ_pos _
      refine ⟨fun σ2 H2 => ∃ m', m' < ys.length ∧ Pv m' σ2 H2, fun _ _ h => h, ?_⟩
      refine ⟨_, rfl, Or.inl ⟨rfl, _, SqL.of (e1 _ _ hf')⟩, _, rfl, Or.inl ⟨rfl, _, SqL.of (e1 _ _ hl')⟩, _, rfl, _, rfl, l, ys, rfl, Or.inl (SqL.of (e1 _ _ hl')), D.d, D.g, D.c, s', (ys.length : Int), rfl, st.up e1, by omega, by omega, by omega, by omega, fun H2 st2 k2 => ?_⟩
      obtain ⟨v0, v1⟩ := val_in s' (show (0 : Int) < (ys.length : Int) by omega)
      have hj : (s'.val ys.length).toNat < ys.length := by omega
      have ev : s'.val ys.length = (((s'.val ys.length).toNat : Nat) : Int) := by omega
      generalize (s'.val ys.length).toNat = j at hj ev
      have hl2 := k2 l _ fl.1 fl.2.1 (e1 _ _ hl')
      have hf2 := k2 f0 _ ff.1 ff.2.1 (e1 _ _ hf')
      refine ⟨l, ys, s'.val ys.length, j, ys[j], rfl, rfl, hl2, by omega, by omega, ?_, List.getElem?_eq_getElem hj, ?_⟩
      · rw [ev]
        unfold seqIndex?
        simp
        omega
      · refine ⟨f0, zs, ys[j], rfl, rfl, by rw [upd_ne nlf.symm]; exact hf2, small1000 (by omega), ?_⟩
        obtain ⟨n1, n2⟩ := next_turn s' ys.length
        obtain ⟨dj, hdj, hdq⟩ := dy.at_ j ys[j] (List.getElem?_eq_getElem hj)
        have hje : j < es.length := by omega
        have edj : es[j] = dj := by
          rw [List.getElem?_eq_getElem hje] at hdj
          exact Option.some.inj hdj
        refine ⟨(ys.eraseIdx j).length, by rw [List.length_eraseIdx]; split <;> omega, s'.next ys.length, ys.eraseIdx j, zs ++ [ys[j]], es.eraseIdx j, us ++ [dj], rfl, ?_, by omega, by rw [List.length_append]; show _ ≤ s0.turn + ((zs.length + 1 : Nat) : Int); omega, ?_, upd_same, ?_, dy.erase j, dz.app (.cons hdq .nil), rfl, ?_⟩
        · exact (st2.own fl.1 fl.2.1 fl.2.2.1).own ff.1 ff.2.1 ff.2.2.1
        · rw [upd_ne nlf, upd_same]
        · refine List.Perm.trans ?_ pm
          rw [List.append_assoc]
          refine List.Perm.append_left us ?_
          rw [← edj]
          exact perm_eraseG es j hje
        · exact ((kp.trans (Kp.of e1)).trans k2 |>.own hlN).own hf0
    · have hy : es = [] := by
        cases es with
        | nil => rfl
        | cons _ _ => cases hb
      subst hy
      rw [List.append_nil] at pm
      have hlen := pm.length_eq
      have kf : Kp D.d D.g H H1 := kp.trans (Kp.of e1)
      exact ⟨_, rfl, k H1 f0 zs us (hST.kp kf (st.up e1) (by omega) (by omega)) (Kx.kp kf) (nw_none hf0) (e1 _ _ hf') (dz.up (vw_kx (Kx.kp kf))) pm⟩
/-- _law_mixed(state, list or tuple) -/
theorem enx_mix {D : DA} {σ : L2.St} {H : Hp} {te : TE} {n N : Nat} {L : List PyData → Prop} {E : XK} {i : Nat} (hi : σ[i]? = some (some (.ref D.d))) (hl : EvX K D te σ H n (fun dd => ∃ ds, (dd = .list ds ∨ dd = .tuple ds) ∧ L ds)) (h1 : ∀ ds, L ds → ds.length ≤ N ∧ ∀ d ∈ ds, CmI d) (hN : N ≤ 1000) :
    EnX K D (tCall (spMixD K) [] E (tCons (tVar i) (tCons te tNil))) σ H (n + N) (fun es => ∃ ds, L ds ∧ es.Perm ds) := fun H1 t k st l Q q =>
  ⟨_, hi, hl H1 t k st (by omega) _ fun v H2 dd k2 s2 hv ⟨ds, hd, pl⟩ => by
    obtain ⟨h2, h3⟩ := h1 ds pl
    have fin : ∀ (a : Addr) (xs : List V), v = .ref a → (SqL K H2 a xs ∨ SqT K H2 a xs) → DqAll K (Vw D H2) xs ds → spMixD K [.ref D.d, v] H2 Q E := fun a xs ea hs hx => by
      subst ea
      exact ⟨D, t + n, a, xs, ds, rfl, s2, by omega, hs, hx, h3, by omega, fun H3 p ys es s3 k3 hp h4 h5 h6 => q p ys H3 es (k2.trans k3) (s3.mono (by omega)) (nw_back s2 k2 hp) h4 h5 ⟨ds, pl, h6⟩⟩
    rcases hd with rfl | rfl
    · cases hv with
      | lst hs hx => exact fin _ _ rfl (.inl (ex_l vw_ex hs)) hx
    · cases hv with
      | tup hs hx => exact fin _ _ rfl (.inr (ex_t vw_ex hs)) hx⟩
end
end My
/-! lines_of, numbers_behind -/
namespace My
open PySem PySem.Spec PyProof.Rows L2 Evl Kpt TL
theorem sep_nl : SepT "\n" 10 := ⟨by decide +kernel, by decide +kernel⟩
theorem sep_sp : SepT " " 32 := ⟨by decide +kernel, by decide +kernel⟩
/-- the lines of a text -/
def linesT (t : Str) : List Str := if t = "" then [] else Txt.split t "\n"
def isStrD : PyData → Bool
  | .str _ => true
  | _ => false
/-- the numbers behind a name -/
def numsB (name line : Str) : Option (List Int) := if (Txt.split line " ").head? = some name ∧ none ∉ (Txt.split line " ").tail.map numW then some ((Txt.split line " ").tail.filterMap numW) else none
def nbD : Option (List Int) → PyData
  | none => .none
  | some ns => .tuple (ns.map .int)
theorem split_count {y : Str} {s : Nat} (S : SepT y s) (x : Str) : ((Txt.split x y).map Str.length).sum + (Txt.split x y).length ≤ x.length + 1 := by
  have h := joinL_length2 s ((Txt.split x y).map tl)
  rw [S.spl, join_spl, List.nil_append, ← S.spl, List.map_map, List.length_map, ← len_tl] at h
  have e : (Txt.split x y).map Str.length = (Txt.split x y).map (List.length ∘ tl) := List.map_congr_left fun z _ => len_tl z
  rw [e]
  exact h
theorem range_getD {α : Type} (l : List α) (d : α) : (List.range l.length).map (fun i => l.getD i d) = l := by
  refine List.ext_getElem (by simp) fun i h1 h2 => ?_
  simp [List.getD_eq_getElem?_getD, h2]
theorem sum_ge {l : List Nat} {n : Nat} (h : n ∈ l) : n ≤ l.sum := by
  induction l with
  | nil => cases h
  | cons a r ih =>
    rw [List.sum_cons]
    rcases List.mem_cons.mp h with rfl | h
    · omega
    · have := ih h
      omega
theorem split_len {y : Str} {s : Nat} (S : SepT y s) {x p : Str} (h : p ∈ Txt.split x y) : p.length ≤ x.length := by
  have := split_count S x
  have h2 := sum_ge (List.mem_map.mpr ⟨p, h, rfl⟩ : p.length ∈ (Txt.split x y).map Str.length)
  have h3 : 0 < (Txt.split x y).length := List.length_pos_iff.mpr (S.cuts x)
  omega
section
variable {K : PySem.W.Frag} {σ : L2.St} {B H : Hp} {te ta tb : TE} {x y : Str}
def tSplit (to te : TE) : TE := tM1 (fun x xs H Q => ∃ a b, x = .str a ∧ xs = [.str b] ∧ (b.length == 0) = false ∧ a.length + 2 ≤ sizeLine ∧ rNewStrs (Txt.split a b) H Q) to te
theorem el_split {s : Nat} (S : SepT y s) (h : Ev ta σ H (.str x)) (k : Ev tb σ H (.str y)) (hz : x.length ≤ 90000) : EvL (tM1 (fun x xs H Q => ∃ a b, x = .str a ∧ xs = [.str b] ∧ (b.length == 0) = false ∧ a.length + 2 ≤ sizeLine ∧ rNewStrs (Txt.split a b) H Q) ta tb) σ H ((Txt.split x y).map .str) := fun H1 e Q q =>
  h H1 e _ fun H2 e2 => ⟨⟨x, rfl⟩, k H2 (e.trans e2) _ fun H3 e3 => ⟨x, y, rfl, rfl, by
    rw [len_tl, S.e]
    rfl, sz_of (by omega), fun p hp => q p _ (fresh_back (e2.trans e3) hp) ((e2.trans e3).trans (Ex.new hp)) upd_same⟩⟩
theorem ed_ifE {t : TT} {b : Bool} {d : PyData} (h : EvT t σ B b) (h1 : b = true → EvD K ta σ B d) (h2 : b = false → EvD K tb σ B d) : EvD K (tIf t ta tb) σ B d := fun B1 H1 e s Q q => h H1 (e.trans s) _ fun H2 e2 => by
  cases b with
  | true => exact iteT (h1 rfl B1 H2 e (s.trans e2) Q fun v B2 H3 g hv => q v B2 H3 ((Gr.of s e2).trans g) hv)
  | false => exact iteF (h2 rfl B1 H2 e (s.trans e2) Q fun v B2 H3 g hv => q v B2 H3 ((Gr.of s e2).trans g) hv)
theorem kit_strD {d : PyData} : PySem.W.kitOne K (.type (tyD d)) (.type "str") = some (isStrD d) := by cases d <;> rfl
end
section
variable {P : Program} {w : World} {K : PySem.W.Frag} {mg : Str → Option Value} {base : Heap}
/-- raise BadText(n) -/
def RaT (E : XK) (CT : Addr) (H : Hp) (n : Int) : Prop := ∀ H' d, Ex H H' → H' d = none → E (.ref CT) (some d) (upd H' d (.xd [("line", .int n)]))
theorem RaT.go {E : XK} {CT : Addr} {H H' : Hp} {n : Int} (h : RaT E CT H n) (e : Ex H H') : RaT E CT H' n := fun H2 d e2 => h H2 d (e.trans e2)
def spLines (K : PySem.W.Frag) (CT : Addr) : Sp := fun vs H Q E => ∃ x, vs = [x] ∧ ((∃ d, Dq K H x d ∧ isStrD d = false ∧ RaT E CT H 0) ∨
  ∃ t : Str, x = .str t ∧ t.length ≤ 90000 ∧ ∀ p H', Ex H H' → H p = none → H' p = some (.lst ((linesT t).map .str)) → Q (.ref p) H')
theorem scLines : FnScope ["text"] ["text"] (defScope s_lines_of) := ⟨rfl, rfl, rfl, by decide +kernel, rfl, by decide +kernel, by decide +kernel⟩
theorem bf_line : ∀ (a1 a2 : Pos) (fd : FuncData) (y u : Value), fd.params = iniA "line" a1 a2 → fd.defaults = .none → bindArgs fd ⟨[y, u], []⟩ = pure [(("self" : Str), y), ("line", u)] := fun a1 a2 fd y u h1 h2 => by
  obtain ⟨n1, n2, n3, n4, n5, n6, n7, n8, n9, n10, n11, n12, n13, n14, n15⟩ := fd
  have e' : n3 = iniA "line" a1 a2 := h1
  have ed' : n8 = .none := h2
  subst e' ed'
  rfl
theorem ok_lines {f CT fI : Addr} {fd : FuncData} {text file : Str} (F : Fun K "lines_of" "lines_of" s_lines_of f fd) (B : NmB mg) (gS : mg "str" = none) (T : IniC K CT fI "line" text file) (gT : mg "BadText" = some (.ref CT)) (S : SupM P mg file "line") : FnOk P w K mg base (L2.CX P w) 3 f fd ["text"] (spLines K CT) := by
  refine F.okX scLines (fun vs H Q E h => ?_) (fun cdv A outer s H vs Q E hr h => ?_)
  · obtain ⟨x, rfl, _⟩ := h
    rfl
  · obtain ⟨x, rfl, h⟩ := h
    refine ⟨_, pss_cons (ps_if (pt_not (pt_val (pe_callB call_isi (by rfl) B.isi boot_isi (pa_cons (pv 0) (pa_cons (pe_bltn (v := .ty "str") (by rfl) gS boot_strT rfl) pa_nil)))))
        (pss_one (ps_raiseI (W := WxE E) T.at_ S T.sb T.ty rfl (takes_of rfl rfl rfl rfl) hr gT pe_int bf_line (by rfl))) pss_nil)
      (pss_one (ps_ret (pe_ifExp (pt_cmpR op_ne (pv 0) pe_str (nomark _)) (pe_split (pv 0) pe_str) (pe_lst pa_nil)))), ?_⟩
    rcases h with ⟨d, hd, hs, hE⟩ | ⟨t, rfl, ht, k⟩
    · refine q_when (b := true) (et_is (et_not (et_B (ev_isi (ev_var rfl) (.ty _) (fun _ e => ty_dq (hd.up e)) (kit_strD.trans (by rw [hs]))))) (by rfl)) (fun _ H1 e1 => ?_) (fun z => by cases z)
      exact fun dd hdd => hE H1 dd e1 hdd
    · refine q_when (b := false) (et_is (et_not (et_B (ev_isi (b := true) (ev_var rfl) (.ty _) (fun _ e => ty_dq (d := .str t) (.str t)) rfl))) (by rfl)) (fun z => by cases z) (fun _ H1 e1 => ?_)
      by_cases z : t = ""
      · have e : linesT t = [] := if_pos z
        rw [e] at k
        refine s_retL (xs := []) (fun H2 e2 Q2 q2 => ?_) fun p H2 hp e2 h2 => k p H2 (e1.trans e2) (fresh_back e1 hp) h2
        refine et_is (b := false) (et_test (ev_op (ev_var rfl) ev_c (rv_ne rfl))) ?_ H2 e2 _ fun H3 e3 => iteF (el_lst (ea_nil) (by show 0 ≤ 100000; decide) H3 (e2.trans e3) Q2 fun p H4 hp e4 h4 => q2 p H4 (fresh_back e3 hp) (e3.trans e4) h4)
        rw [z]
        simp
      · have e : linesT t = Txt.split t "\n" := if_neg z
        rw [e] at k
        refine s_retL (xs := (Txt.split t "\n").map .str) (fun H2 e2 Q2 q2 => ?_) fun p H2 hp e2 h2 => k p H2 (e1.trans e2) (fresh_back e1 hp) h2
        refine et_is (b := true) (et_test (ev_op (ev_var rfl) ev_c (rv_ne rfl))) ?_ H2 e2 _ fun H3 e3 => iteT (el_split sep_nl (ev_var rfl) ev_c ht H3 (e2.trans e3) Q2 fun p H4 hp e4 h4 => q2 p H4 (fresh_back e3 hp) (e3.trans e4) h4)
        have : ¬ V.str t = V.str "" := fun u => z (by injection u)
        simp [this]
def spNb (K : PySem.W.Frag) : Sp := fun vs H Q _ => ∃ x y : Str, vs = [.str x, .str y] ∧ x.length ≤ 30000 ∧ ∀ v H', Ex H H' → Dq K H' v (nbD (numsB y x)) → Q v H'
abbrev nNb : List Str := ["line", "name", "words", "found", "word"]
theorem scNb : FnScope nNb ["line", "name"] (defScope s_numbers_behind) := ⟨rfl, rfl, rfl, by decide +kernel, rfl, by decide +kernel, by decide +kernel⟩
theorem ok_nb {f fN : Addr} {fd fdN : FuncData} (F : Fun K "numbers_behind" "numbers_behind" s_numbers_behind f fd) (B : NmB mg) (Nu : CalX P w K mg base CX0 1 "number_of" ["word"] spNum fN fdN) : FnOk P w K mg base CX0 2 f fd ["line", "name"] (spNb K) := by
  refine F.ok scNb (fun vs H Q E h => ?_) (fun cdv A outer s H vs Q E hr h => ?_)
  · obtain ⟨x, y, rfl, _⟩ := h
    rfl
  · obtain ⟨x, y, rfl, hx, k⟩ := h
    refine ⟨_, pss_cons (ps_set (i := 2) scNb.nd rfl (Or.inl rfl) (pe_split (pv 0) pe_str))
      (pss_cons (ps_setLc (i := 3) (own := [("word", 4)]) (g := gName 4) rfl scNb.nd rfl rfl (sw_true rfl rfl rfl (by decide +kernel)) (pi_list (pe_slice (show SlR _ (rSlL K) from sl_list) (pv 2) (po_some pe_int) po_none)) (blkOk_by (N := nNb) (sc := defScope s_numbers_behind) (by decide +kernel))
            (fun _ _ _ _ _ => pg_name (i := 4) scNb.nd rfl (Or.inl rfl)) (fun _ _ _ _ _ => pts_nil) (fun _ _ _ _ _ => pe_call Nu.ok hr (by rfl) Nu.g Nu.kp Nu.b .nil pass0 (pa_cons (pv 4) pa_nil)))
      (pss_one (ps_ret (pe_ifExp (PW.pt (pw_and (pt_cmpR op_eq (pe_ix (show IxR _ (rIxL K) from ix_list) (pv 2) pe_int (fun _ _ => rfl)) (pv 1) (nomark _)) (pw_and1 (pt_cmpR (show OpR _ (compareOp .NotIn) (rNotInD K) from op_notInD (room65 hr)) pe_non (pv 3) (by rfl)))))
        (pe_callTy (show CallR _ _ (rTupS K) from call_tuple_of) (by rfl) B.tup boot_tupT (pa_cons (pv 3) pa_nil)) pe_non)))), ?_⟩
    obtain ⟨ws, hws⟩ : ∃ ws, Txt.split x " " = ws := ⟨_, rfl⟩
    have hne : ws ≠ [] := hws ▸ sep_sp.cuts x
    have hcount := split_count sep_sp x
    have hlen : ∀ p ∈ ws, p.length ≤ x.length := fun p hp => split_len sep_sp (hws ▸ hp)
    rw [hws] at hcount
    have hwl : ws.length ≤ 40000 := by omega
    refine q_asgL (el_is (el_split sep_sp (ev_var rfl) ev_c (by omega)) (by rw [hws])) fun p H1 hp e1 h1 => ?_
    have hcut : cutV (ws.map V.str) (some 1) none = ws.tail.map V.str := by
      rw [show (some (1 : Int)) = some ((1 : Nat) : Int) from rfl, cut_from]
      cases ws <;> rfl
    refine q_asgL (xs := (ws.tail.map numW).map optV) ?_ fun q H2 hq e2 h2 => ?_
    · refine el_is (el_lcNL (xs := ws.tail.map V.str) (fun _ => true) (fun i => ((ws.tail.map numW).map optV).getD i .non) (el_is (el_sl (K := K) (ev_var rfl) (eo_some ev_c) eo_none (SqL.of h1)) hcut) (by rw [List.length_map, List.length_tail]; omega) (fun _ => rfl) (fun _ _ H2 e2 _ => fun H3 e3 Q q => q H3 (Ex.refl _)) (fun i v H2 e2 hv _ => ?_)) ?_
      · rw [List.getElem?_map] at hv
        obtain ⟨wd, hwd, rfl⟩ := Option.map_eq_some_iff.mp hv
        have e : ((ws.tail.map numW).map optV).getD i .non = optV (numW wd) := by
          rw [List.getD_eq_getElem?_getD, List.getElem?_map, List.getElem?_map, hwd]
          rfl
        rw [e]
        exact ev_call (sp := spNum) (dvs := []) (E := L2.E0) (ea_cons (ev_var rfl) ea_nil) fun H3 e3 Q q E => ⟨wd, rfl, by
          have := hlen wd (List.mem_of_mem_tail (List.mem_of_getElem? hwd))
          omega, fun H4 e4 => q H4 e4⟩
      · have e := range_getD ((ws.tail.map numW).map optV) .non
        rw [List.length_map, List.length_map] at e
        rw [given_all, List.length_map]
        exact e
    · obtain ⟨w0, wr, rfl⟩ : ∃ a r, ws = a :: r := by
        cases ws with
        | nil => exact absurd rfl hne
        | cons a r => exact ⟨a, r, rfl⟩
      have hd : DqAll K H2 ((wr.map numW).map optV) ((wr.map numW).map optD) := dq_opts _
      have hv : Dq K H2 (.ref q) (.list ((wr.map numW).map optD)) := .lst (SqL.of h2) hd
      have cO : ∀ o : Option Int, CmI (optD o) := fun o => by
        cases o with
        | none => exact ⟨by simp [optD, PyData.hasDict], by simp [optD, PyData.canLay0], by simp [optD, PyData.depth]⟩
        | some n => exact cmi_int n
      have hin : ((wr.map numW).map optD).any (fun z => PyData.eqv z .none) = decide (none ∈ wr.map numW) := by
        rw [Bool.eq_iff_iff, List.any_eq_true, decide_eq_true_eq]
        constructor
        · rintro ⟨z, hz, he⟩
          obtain ⟨o, ho, rfl⟩ := List.mem_map.mp hz
          cases o with
          | none => exact ho
          | some n => simp [optD, PyData.eqv] at he
        · intro h
          exact ⟨_, List.mem_map.mpr ⟨none, h, rfl⟩, by simp [optD, PyData.eqv]⟩
      refine s_retD (K := K) (B := H2) (d := nbD (numsB y x)) (ed_ifE (b := decide (w0 = y) && !decide (none ∈ wr.map numW)) (et_and (et_is (et_test (ev_op (ev_op (ev_var rfl) ev_c (rv_ixL (SqL.of (e2 _ _ h1)) (atI_nat (j := 0) rfl))) (ev_var rfl) (rv_eq rfl))) ?_) (fun _ => et_test (ev_is (ev_niD (K := K) (ed_non ev_c) (ed_var rfl hv) ⟨by simp [PyData.hasDict], by unfold SeqAt.shaped; simp [PyData.canLay0, PyData.depth]⟩ (cmp_list fun d hd => by
          obtain ⟨o, _, rfl⟩ := List.mem_map.mp hd
          exact cO o)) (by rw [hin])))) (fun z => ?_) (fun z => ?_)) (Ex.refl _) fun v B1 H3 g hv => k v H3 ((e1.trans e2).trans g.h) (hv.up g.s)
      · rw [Bool.eq_iff_iff, decide_eq_true_eq, decide_eq_true_eq]
        exact ⟨fun u => by injection u, fun u => congrArg V.str u⟩
      · rw [Bool.and_eq_true, Bool.not_eq_true', decide_eq_true_eq, decide_eq_false_iff_not] at z
        have e : numsB y x = some (wr.filterMap numW) := by
          unfold numsB
          rw [hws, if_pos ⟨by rw [z.1]; rfl, z.2⟩]
          rfl
        have hall : ∀ l : List Str, none ∉ l.map numW → (l.map numW).map optD = (l.filterMap numW).map .int := fun l => by
          induction l with
          | nil => exact fun _ => rfl
          | cons a r ih =>
            intro h
            rw [List.map_cons, List.mem_cons, not_or] at h
            obtain ⟨n, hn⟩ : ∃ n, numW a = some n := by
              cases e : numW a with
              | none => exact absurd e.symm h.1
              | some n => exact ⟨n, rfl⟩
            rw [List.map_cons, List.map_cons, ih h.2, List.filterMap_cons, hn]
            rfl
        rw [e]
        show EvD K _ _ _ (.tuple _)
        rw [← hall wr z.2]
        exact ed_tupOfL (ed_var rfl hv)
      · have e : numsB y x = none := by
          unfold numsB
          rw [hws, if_neg]
          rintro ⟨h1, h2⟩
          rw [decide_eq_true (Option.some.inj h1), decide_eq_false (show none ∉ wr.map numW from h2)] at z
          cases z
        rw [e]
        exact ed_non ev_c
end
end My
/-! loops that give back what they find first -/
namespace My
open PySem PySem.Spec PyProof.Rows L2 Evl
def firstN {ρ : Type} (n : Nat) (f : Nat → Option ρ) : Option ρ := (List.range n).findSome? f
theorem firstN_none {ρ : Type} {n : Nat} {f : Nat → Option ρ} (h : ∀ i < n, f i = none) : firstN n f = none := List.findSome?_eq_none_iff.mpr fun i hi => h i (List.mem_range.mp hi)
theorem findSome_app {α ρ : Type} {f : α → Option ρ} {r : ρ} : ∀ {l : List α} {x : α} {m : List α}, (∀ y ∈ l, f y = none) → f x = some r → (l ++ x :: m).findSome? f = some r
  | [], x, m, _, h => by
    rw [List.nil_append, List.findSome?_cons, h]
  | a :: l, x, m, h0, h => by
    rw [List.cons_append, List.findSome?_cons, h0 a List.mem_cons_self]
    exact findSome_app (fun y hy => h0 y (List.mem_cons_of_mem _ hy)) h
theorem firstN_some {ρ : Type} {n i : Nat} {f : Nat → Option ρ} {r : ρ} (hi : i < n) (h : f i = some r) (h0 : ∀ j < i, f j = none) : firstN n f = some r := by
  unfold firstN
  have e : List.range n = List.range i ++ i :: (List.range (n - i - 1)).map (i + 1 + ·) := by
    have e1 : n = i + (1 + (n - i - 1)) := by omega
    conv => lhs; rw [e1]
    rw [List.range_add, List.range_add, List.map_append, List.map_map]
    simp [List.range_succ]
    intro a _
    omega
  rw [e]
  exact findSome_app (fun y hy => h0 y (List.mem_range.mp hy)) h
theorem s_find {σ : L2.St} {H : Hp} {wi : TI} {g : TG} {tb : TS} {D : Ends} {n : Nat} {Y : Nat → Hp → V → Hp → Prop} {ρ : Type} (f : Nat → Option ρ) (ok : ρ → VK) (Shape : L2.St → Prop) (h0 : Shape σ)
    (hw : ∀ H1, Ex H H1 → ∀ R : It → Hp → Prop, (∀ J H2, Ex H1 H2 → Walk J n (fun H' => Ex H2 H') Y → R J H2) → wi σ H1 R)
    (hs : ∀ i x σ' H1 H2, i < n → Ex H H1 → Shape σ' → Y i H1 x H2 → ∀ N : L2.St → Hp → Prop, (f i = none → ∀ σ3 H3, Shape σ3 → Ex H1 H3 → N σ3 H3) → (∀ r, f i = some r → ∀ v H3, Ex H1 H3 → ok r v H3 → D.rt v H3) →
      g x σ' H2 fun σ2 H3 => tb { D with nx := N, ct := N, bk := D.nx } σ2 H3)
    (hd : firstN n f = none → ∀ σ' H', Shape σ' → Ex H H' → D.nx σ' H') (hr : ∀ r, firstN n f = some r → ∀ v H', Ex H H' → ok r v H' → D.rt v H') : tFor wi g tb D σ H :=
  hw H (Ex.refl H) _ fun J H2 e2 w => for_it w (fun i σ' H' => Shape σ' ∧ Ex H2 H' ∧ ∀ j < i, f j = none) ⟨h0, Ex.refl _, fun j h => absurd h (Nat.not_lt_zero _)⟩ (fun i σ' H' _ p => p.2.1)
    (fun i x σ' H3 H4 hi p y => hs i x σ' H3 H4 hi (e2.trans p.2.1) p.1 y _ (fun hf σ3 H5 s3 e5 => ⟨s3, p.2.1.trans e5, fun j hj => by
      rcases Nat.lt_succ_iff_lt_or_eq.mp hj with z | z
      · exact p.2.2 j z
      · subst z
        exact hf⟩) (fun r hf v H5 e5 o5 => hr r (firstN_some hi hf p.2.2) v H5 (e2.trans (p.2.1.trans e5)) o5)) (fun σ' H' p => hd (firstN_none p.2.2) σ' H' p.1 (e2.trans p.2.1))
theorem q_find {σ : L2.St} {H : Hp} {wi : TI} {g : TG} {tb tz : TS} {D : Ends} {n : Nat} {Y : Nat → Hp → V → Hp → Prop} {ρ : Type} (f : Nat → Option ρ) (ok : ρ → VK) (Shape : L2.St → Prop) (h0 : Shape σ)
    (hw : ∀ H1, Ex H H1 → ∀ R : It → Hp → Prop, (∀ J H2, Ex H1 H2 → Walk J n (fun H' => Ex H2 H') Y → R J H2) → wi σ H1 R)
    (hs : ∀ i x σ' H1 H2, i < n → Ex H H1 → Shape σ' → Y i H1 x H2 → ∀ N : L2.St → Hp → Prop, (f i = none → ∀ σ3 H3, Shape σ3 → Ex H1 H3 → N σ3 H3) → (∀ r, f i = some r → ∀ v H3, Ex H1 H3 → ok r v H3 → D.rt v H3) →
      g x σ' H2 fun σ2 H3 => tb { D with nx := N, ct := N, bk := tz D } σ2 H3)
    (hd : firstN n f = none → ∀ σ' H', Shape σ' → Ex H H' → tz D σ' H') (hr : ∀ r, firstN n f = some r → ∀ v H', Ex H H' → ok r v H' → D.rt v H') : tSeq (tFor wi g tb) tz D σ H :=
  s_find (D := { D with nx := tz D }) f ok Shape h0 hw hs hd hr
/-- range(n), range(lo, hi), a tuple -/
theorem w_rng1 {σ : L2.St} {H : Hp} {te : TE} {n : Nat} (h : Ev te σ H (.int (n : Int))) (hn : n ≤ 100000) : ∀ H1, Ex H H1 → ∀ R : It → Hp → Prop, (∀ J H2, Ex H1 H2 → Walk J n (fun H' => Ex H2 H') (YFn fun i => .int (i : Int)) → R J H2) → iRng1 (tCons te tNil) σ H1 R :=
  fun H1 e R hR => h H1 e _ fun H2 e2 => ⟨(n : Int), rfl, by omega, by omega, hR _ H2 e2 (Walk.mono (walk_range (lo := 0) (n := n)) (fun _ _ => trivial) fun i H' x H'' _ _ y => by
    obtain ⟨a, b⟩ := y
    refine ⟨a, ?_⟩
    rw [b]
    exact congrArg V.int (Int.zero_add _))⟩
theorem w_rng2 {σ : L2.St} {H : Hp} {ta tb : TE} {lo hi : Int} (ha : Ev ta σ H (.int lo)) (hb : Ev tb σ H (.int hi)) (h0 : 0 ≤ lo ∧ lo ≤ 100000 ∧ 0 ≤ hi ∧ hi ≤ 100000) : ∀ H1, Ex H H1 → ∀ R : It → Hp → Prop, (∀ J H2, Ex H1 H2 → Walk J (hi - lo).toNat (fun H' => Ex H2 H') (YFn fun i => .int (lo + (i : Int))) → R J H2) → iRng2 (tCons ta (tCons tb tNil)) σ H1 R :=
  fun H1 e R hR => ha H1 e _ fun H2 e2 => hb H2 (e.trans e2) _ fun H3 e3 => ⟨lo, hi, rfl, ⟨by omega, by omega, by omega, by omega⟩, hR _ H3 (e2.trans e3) (Walk.mono walk_range (fun _ _ => trivial) fun _ _ _ _ _ _ y => y)⟩
theorem w_tup {K : PySem.W.Frag} {σ : L2.St} {H : Hp} {te : TE} {xs : List V} (h : EvS K te σ H xs) : ∀ H1, Ex H H1 → ∀ R : It → Hp → Prop, (∀ J H2, Ex H1 H2 → Walk J xs.length (fun H' => Ex H2 H') (YAt xs) → R J H2) → iTup K te σ H1 R :=
  fun H1 e R hR => h H1 e _ fun p H2 e2 hp => ⟨p, rfl, ⟨xs, hp⟩, hR _ H2 e2 (Walk.mono (walk_tup (K := K) (a := p) (xs := xs)) (fun H' e' => ex_t e' hp) fun _ _ _ _ _ _ y => y)⟩
end My
/-! is_place, are_places, need_places, fault_of, is_drawing -/
namespace My
open PySem PySem.Spec PyProof.Rows L2 Evl
/-- no tuple -/
def NoTup (K : PySem.W.Frag) (H : Hp) (x : V) : Prop := ∀ H', Ex H H' → ∃ t, TyX K H' x t ∧ PySem.W.kitOne K t (.type "tuple") = some false
/-- an item as is_place sees it -/
inductive ItV (K : PySem.W.Frag) (H : Hp) : V → Option (List V) → Prop
  | tup {t : Addr} {ys : List V} : SqT K H t ys → (∀ y ∈ ys, flatV y = true) → ys.length ≤ 100 → ItV K H (.ref t) (some ys)
  | no {x : V} : NoTup K H x → ItV K H x none
theorem ItV.up {K : PySem.W.Frag} {H H' : Hp} (e : Ex H H') {x : V} {o : Option (List V)} (h : ItV K H x o) : ItV K H' x o := by
  cases h with
  | tup h1 h2 h3 => exact .tup (ex_t e h1) h2 h3
  | no h => exact .no fun H2 e2 => h H2 (e.trans e2)
inductive ItL (K : PySem.W.Frag) (H : Hp) : List V → List (Option (List V)) → Prop
  | nil : ItL K H [] []
  | cons {x : V} {o : Option (List V)} {xs : List V} {os : List (Option (List V))} : ItV K H x o → ItL K H xs os → ItL K H (x :: xs) (o :: os)
theorem ItL.up {K : PySem.W.Frag} {H H' : Hp} (e : Ex H H') : ∀ {xs os}, ItL K H xs os → ItL K H' xs os
  | _, _, .nil => .nil
  | _, _, .cons h r => .cons (h.up e) (r.up e)
theorem ItL.len {K : PySem.W.Frag} {H : Hp} : ∀ {xs os}, ItL K H xs os → xs.length = os.length
  | _, _, .nil => rfl
  | _, _, .cons _ r => congrArg (· + 1) r.len
theorem ItL.get {K : PySem.W.Frag} {H : Hp} : ∀ {xs os}, ItL K H xs os → ∀ (i : Nat) (x : V), xs[i]? = some x → ∃ o, os[i]? = some o ∧ ItV K H x o
  | _, _, .nil, _, _, h => nomatch h
  | _, _, .cons h r, 0, x, e => ⟨_, rfl, by cases e; exact h⟩
  | _, _, .cons h r, i + 1, x, e => r.get i x e
theorem ItL.app {K : PySem.W.Frag} {H : Hp} : ∀ {xs os ys ps}, ItL K H xs os → ItL K H ys ps → ItL K H (xs ++ ys) (os ++ ps)
  | _, _, _, _, .nil, k => k
  | _, _, _, _, .cons h r, k => .cons h (r.app k)
def okItem : Option (List V) → Bool
  | some ys => decide (ys.length = 2) && ys.all fun y => numV y (-1000000) 1000000
  | none => false
/-- the places as are_places sees them -/
inductive ArV (K : PySem.W.Frag) (H : Hp) : V → Option (List (Option (List V))) → Prop
  | tup {t : Addr} {xs : List V} {os : List (Option (List V))} : SqT K H t xs → ItL K H xs os → xs.length ≤ 100 → ArV K H (.ref t) (some os)
  | no {x : V} : NoTup K H x → ArV K H x none
theorem ArV.up {K : PySem.W.Frag} {H H' : Hp} (e : Ex H H') {x : V} {o : Option (List (Option (List V)))} (h : ArV K H x o) : ArV K H' x o := by
  cases h with
  | tup h1 h2 h3 => exact .tup (ex_t e h1) (h2.up e) h3
  | no h => exact .no fun H2 e2 => h H2 (e.trans e2)
def okAll (m : Int) : Option (List (Option (List V))) → Bool
  | some os => decide ((os.length : Int) = m) && os.all okItem
  | none => false
theorem ev_noTup {K : PySem.W.Frag} {σ : L2.St} {H : Hp} {i : Nat} {x : V} (h : σ[i]? = some (some x)) (hx : NoTup K H x) : Ev (tCB (rIsi K) (tCons (tVar i) (tCons (tC (.ty "tuple")) tNil))) σ H (.bl false) := fun H1 e Q q => ⟨_, h, by
  obtain ⟨t, h1, h2⟩ := hx H1 e
  exact ⟨x, _, t, _, false, rfl, .ty _, h1, h2, q H1 (Ex.refl _)⟩⟩
theorem ev_isTup {K : PySem.W.Frag} {σ : L2.St} {H : Hp} {i : Nat} {t : Addr} {xs : List V} (h : σ[i]? = some (some (.ref t))) (hx : SqT K H t xs) : Ev (tCB (rIsi K) (tCons (tVar i) (tCons (tC (.ty "tuple")) tNil))) σ H (.bl true) :=
  ev_isi (ev_var h) (.ty _) (fun _ e => ty_tup (ex_t e hx)) rfl
theorem map_getD {α β : Type} (f : α → β) (d : α) (l : List α) : ((List.range l.length).map fun i => f (l.getD i d)) = l.map f := by
  refine List.ext_getElem (by simp) fun i h1 h2 => ?_
  have hi : i < l.length := by simpa using h1
  simp [List.getD_eq_getElem?_getD, hi]
section
variable {P : Program} {w : World} {K : PySem.W.Frag} {mg : Str → Option Value} {base : Heap}
def spPlace (K : PySem.W.Frag) : Sp := fun vs H Q _ => ∃ x o, vs = [x] ∧ ItV K H x o ∧ RetV (.bl (okItem o)) H Q
theorem scPl : FnScope ["value", "item"] ["value"] (defScope s_is_place) := ⟨rfl, rfl, rfl, by decide +kernel, rfl, by decide +kernel, by decide +kernel⟩
theorem ok_place {f fN fW : Addr} {fd fdN fdW : FuncData} (F : Fun K "is_place" "is_place" s_is_place f fd) (B : CkB mg) (gm : ∃ t, mg nMostPlace = some (.int 1000000 t)) (FN : Fun K "is_number" "is_number" s_is_number fN fdN) (mgN : mg "is_number" = some (.ref fN)) (FW : Fun K "is_whole" "is_whole" s_is_whole fW fdW) (mgW : mg "is_whole" = some (.ref fW)) :
    FnOk P w K mg base CX0 3 f fd ["value"] (spPlace K) := by
  have GN : FnOk P w K mg base CX0 2 fN fdN ["value", "least", "most"] spNumber := ok_number FN B FW mgW
  have bN : Binds K fdN ["value", "least", "most"] [] := FN.binds (ps := ["value", "least", "most"]) fun _ _ _ _ _ _ us hl => match us, hl with | [_, _, _], _ => rfl
  obtain ⟨tk, gm⟩ := gm
  refine F.ok scPl (fun vs H Q E h => ?_) (fun cdv A outer s H vs Q E hr h => ?_)
  · obtain ⟨x, o, rfl, _⟩ := h
    rfl
  · obtain ⟨x, o, rfl, hx, k⟩ := h
    refine ⟨_, pss_cons (ps_if (PW.pt (pw_or (pt_not (pt_val (pe_callB call_isi (by rfl) B.isi boot_isi (pa_cons (pv 0) (pa_cons (pe_bltn (v := .ty "tuple") (by rfl) B.tup boot_tupT rfl) pa_nil)))))
        (pw_or1 (pt_cmpR op_ne (pe_callB call_len_seq (by rfl) B.len PySem.boot_len (pa_cons (pv 0) pa_nil)) pe_int (nomark _))))) (pss_one (ps_ret pe_bl)) pss_nil)
      (pss_one (ps_ret (pe_callB (call_allB rfl) (by rfl) B.all boot_all (pa_cons (pe_lc (own := [("item", 1)]) (g := gName 1) rfl scPl.nd (pi_tup (pv 0)) (blkOk_by (N := ["value", "item"]) (sc := defScope s_is_place) (by decide +kernel))
        (fun _ _ _ _ _ => pg_name (i := 1) scPl.nd rfl (Or.inl rfl)) (fun _ _ _ _ _ => pts_nil) (fun _ _ _ _ _ => pe_call GN hr (by rfl) mgN FN.kp bN .nil pass0 (pa_cons (pv 1) (pa_cons (pe_un un_neg (pe_glob (v := .int 1000000) (by rfl) gm ⟨tk, rfl⟩)) (pa_cons (pe_glob (v := .int 1000000) (by rfl) gm ⟨tk, rfl⟩) pa_nil))))) pa_nil)))), ?_⟩
    cases hx with
    | no hn => exact q_when (b := true) (et_or (b := true) (et_not (et_B (ev_noTup rfl hn))) (fun z => by cases z)) (fun _ H1 e1 => s_ret ev_c fun H2 e2 => k.go (e1.trans e2)) (fun z => by cases z)
    | @tup t ys ht hf hl =>
      refine q_when (et_or (et_not (et_B (ev_isTup rfl ht))) (fun _ => et_test (ev_op (ev_lenS (es_var rfl ht)) ev_c (rv_ne rfl)))) (fun hb H1 e1 => ?_) (fun hb H1 e1 => ?_)
      · have hne : ¬ ys.length = 2 := fun e => by
          rw [e] at hb
          cases hb
        refine s_ret (v := .bl false) ev_c fun H2 e2 => ?_
        have q : okItem (some ys) = false := by
          show (decide (ys.length = 2) && ys.all fun y => numV y (-1000000) 1000000) = false
          rw [decide_eq_false hne, Bool.false_and]
        rw [← q]
        exact k.go (e1.trans e2)
      · have heq : ys.length = 2 := by
          by_cases e : ys.length = 2
          · exact e
          · have q : decide (V.int (ys.length : Int) = V.int 2) = false := decide_eq_false fun z => e (by have := V.int.inj z; omega)
            rw [q] at hb
            cases hb
        have hLC : EvL (tLc (iTup K (tVar 0)) (gName 1) tYes (tCall spNumber [] E0 (tCons (tVar 1) (tCons (tUn (rU fun i => .int (-i)) (tC (.int 1000000))) (tCons (tC (.int 1000000)) tNil)))) [1]) [some (.ref t), none] H1 (given ys.length (fun _ => true) fun i => V.bl (numV (ys.getD i .non) (-1000000) 1000000)) := by
          refine el_lcW (n := ys.length) (Y := YAt ys) _ _ (by omega) (w_tup (es_var rfl (ex_t e1 ht))) (fun i x H2 H3 hi e2 y => ?_)
          obtain ⟨rfl, hy⟩ := y
          have fx : flatV x = true := hf x (List.mem_of_getElem? hy)
          refine ⟨Ex.refl _, _, fun R hR => hR, rfl, fun H3 _ Q q => q H3 (Ex.refl _), fun _ => ?_⟩
          rw [List.getD_eq_getElem?_getD, hy]
          exact ev_call (ea_cons (ev_var rfl) (ea_cons (ev_un ev_c ru_neg) (ea_cons ev_c ea_nil))) (sp_number fx)
        refine s_ret (v := .bl (okItem (some ys))) (ev_is (ev_all (el_is (ys := (ys.map fun y => numV y (-1000000) 1000000).map V.bl) hLC ?_)) ?_) (fun H2 e2 => k.go (e1.trans e2))
        · rw [given_all, List.map_map, ← map_getD _ V.non]
          rfl
        · show _ = V.bl (decide (ys.length = 2) && ys.all fun y => numV y (-1000000) 1000000)
          rw [decide_eq_true heq, Bool.true_and, List.all_map]
          rfl
def spArePl (K : PySem.W.Frag) (C : Addr) : Sp := fun vs H Q _ => ∃ (x v : V) (m : Int) (ks : List (Int × Int)) (o : Option (List (Option (List V)))), vs = [x, v] ∧ NetV K C H x m ks ∧ ArV K H v o ∧ RetV (.bl (okAll m o)) H Q
theorem scAp : FnScope ["net", "value", "item"] ["net", "value"] (defScope s_are_places) := ⟨rfl, rfl, rfl, by decide +kernel, rfl, by decide +kernel, by decide +kernel⟩
theorem ok_arePl {f fP fN fW C fI : Addr} {fd fdP fdN fdW : FuncData} (F : Fun K "are_places" "are_places" s_are_places f fd) (B : CkB mg) (T : NtF K mg C fI) (gm : ∃ t, mg nMostPlace = some (.int 1000000 t)) (FP : Fun K "is_place" "is_place" s_is_place fP fdP) (mgP : mg "is_place" = some (.ref fP))
    (FN : Fun K "is_number" "is_number" s_is_number fN fdN) (mgN : mg "is_number" = some (.ref fN)) (FW : Fun K "is_whole" "is_whole" s_is_whole fW fdW) (mgW : mg "is_whole" = some (.ref fW)) :
    FnOk P w K mg base CX0 4 f fd ["net", "value"] (spArePl K C) := by
  have GP : FnOk P w K mg base CX0 3 fP fdP ["value"] (spPlace K) := ok_place FP B gm FN mgN FW mgW
  have bP : Binds K fdP ["value"] [] := FP.binds (ps := ["value"]) fun _ _ _ _ _ _ us hl => match us, hl with | [_], _ => rfl
  refine F.ok scAp (fun vs H Q E h => ?_) (fun cdv A outer s H vs Q E hr h => ?_)
  · obtain ⟨x, v, m, ks, o, rfl, _⟩ := h
    rfl
  · obtain ⟨x, v, m, ks, o, rfl, hN, hx, k⟩ := h
    refine ⟨_, pss_cons (ps_if (PW.pt (pw_or (pt_not (pt_val (pe_callB call_isi (by rfl) B.isi boot_isi (pa_cons (pv 1) (pa_cons (pe_bltn (v := .ty "tuple") (by rfl) B.tup boot_tupT rfl) pa_nil)))))
        (pw_or1 (pt_cmpR op_ne (pe_callB call_len_seq (by rfl) B.len PySem.boot_len (pa_cons (pv 1) pa_nil)) (pe_fld (pv 0) rfl) (nomark _))))) (pss_one (ps_ret pe_bl)) pss_nil)
      (pss_one (ps_ret (pe_callB (call_allB rfl) (by rfl) B.all boot_all (pa_cons (pe_lc (own := [("item", 2)]) (g := gName 2) rfl scAp.nd (pi_tup (pv 1)) (blkOk_by (N := ["net", "value", "item"]) (sc := defScope s_are_places) (by decide +kernel))
        (fun _ _ _ _ _ => pg_name (i := 2) scAp.nd rfl (Or.inl rfl)) (fun _ _ _ _ _ => pts_nil) (fun _ _ _ _ _ => pe_call GP hr (by rfl) mgP FP.kp bP .nil pass0 (pa_cons (pv 2) pa_nil))) pa_nil)))), ?_⟩
    cases hx with
    | no hn => exact q_when (b := true) (et_or (b := true) (et_not (et_B (ev_noTup rfl hn))) (fun z => by cases z)) (fun _ H1 e1 => s_ret ev_c fun H2 e2 => k.go (e1.trans e2)) (fun z => by cases z)
    | @tup t xs os ht hi hl =>
      have hlen := hi.len
      refine q_when (et_or (et_not (et_B (ev_isTup rfl ht))) (fun _ => et_test (ev_op (ev_lenS (es_var rfl ht)) (ev_manyN T (ev_var rfl) hN) (rv_ne rfl)))) (fun hb H1 e1 => ?_) (fun hb H1 e1 => ?_)
      · have hne : ¬ (os.length : Int) = m := fun e => by
          rw [hlen, e, decide_eq_true rfl] at hb
          cases hb
        refine s_ret (v := .bl false) ev_c fun H2 e2 => ?_
        have q : okAll m (some os) = false := by
          show (decide ((os.length : Int) = m) && os.all okItem) = false
          rw [decide_eq_false hne, Bool.false_and]
        rw [← q]
        exact k.go (e1.trans e2)
      · have heq : (os.length : Int) = m := by
          by_cases e : (os.length : Int) = m
          · exact e
          · have q : decide (V.int (xs.length : Int) = V.int m) = false := decide_eq_false fun z => e (by have := V.int.inj z; omega)
            rw [q] at hb
            cases hb
        have hLC : EvL (tLc (iTup K (tVar 1)) (gName 2) tYes (tCall (spPlace K) [] E0 (tCons (tVar 2) tNil)) [2]) [some x, some (.ref t), none] H1 (given xs.length (fun _ => true) fun i => V.bl (okItem (os.getD i none))) := by
          refine el_lcW (n := xs.length) (Y := YAt xs) _ _ (by omega) (w_tup (es_var rfl (ex_t e1 ht))) (fun i z H2 H3 hj e2 y => ?_)
          obtain ⟨rfl, hy⟩ := y
          obtain ⟨o, ho, iv⟩ := hi.get i z hy
          refine ⟨Ex.refl _, _, fun R hR => hR, rfl, fun H3 _ Q q => q H3 (Ex.refl _), fun _ => ?_⟩
          rw [List.getD_eq_getElem?_getD, ho]
          exact ev_call (ea_cons (ev_var rfl) ea_nil) (fun H4 e4 Q q E => ⟨z, o, rfl, iv.up (e1.trans e4), fun H5 e5 => q H5 e5⟩)
        refine s_ret (v := .bl (okAll m (some os))) (ev_is (ev_all (el_is (ys := (os.map okItem).map V.bl) hLC ?_)) ?_) (fun H2 e2 => k.go (e1.trans e2))
        · rw [given_all, List.map_map, hlen, ← map_getD _ none]
          rfl
        · show _ = V.bl (decide ((os.length : Int) = m) && os.all okItem)
          rw [decide_eq_true heq, Bool.true_and, List.all_map]
          rfl
end
end My
/-! need_places -/
namespace My
open PySem PySem.Spec PyProof.Rows L2 Evl
/-- a place as the package lets it be -/
def Near (p : (Int × Int)) : Prop := -1000000 ≤ p.1 ∧ p.1 ≤ 1000000 ∧ -1000000 ≤ p.2 ∧ p.2 ≤ 1000000
theorem itl_of {K : PySem.W.Frag} {H : Hp} : ∀ {xs ps}, PrL H xs ps → ItL K H xs (ps.map fun p => some [V.int p.1, V.int p.2])
  | _, _, .nil => .nil
  | _, _, .cons ⟨t, e, ht⟩ r => by
    subst e
    exact .cons (.tup (SqT.of ht) (fun y hy => by
      rcases List.mem_cons.mp hy with e | hy
      · rw [e]; rfl
      · rw [List.mem_singleton.mp hy]; rfl) (by show 2 ≤ 100; decide)) (itl_of r)
theorem ok_near {p : (Int × Int)} (h : Near p) : okItem (some [V.int p.1, V.int p.2]) = true := by
  obtain ⟨h1, h2, h3, h4⟩ := h
  show (decide ((2 : Nat) = 2) && ([V.int p.1, V.int p.2].all fun y => numV y (-1000000) 1000000)) = true
  rw [List.all_cons, List.all_cons, num_in (by omega) (by omega) h1 h2, num_in (by omega) (by omega) h3 h4]
  rfl
theorem okAll_near {m : Int} {ps : List (Int × Int)} (h : ∀ p ∈ ps, Near p) (hm : (ps.length : Int) = m) : okAll m (some (ps.map fun p => some [V.int p.1, V.int p.2])) = true := by
  show (decide (((ps.map fun p => some [V.int p.1, V.int p.2]).length : Int) = m) && _) = true
  rw [List.length_map, decide_eq_true hm, Bool.true_and, List.all_map]
  exact List.all_eq_true.mpr fun p hp => ok_near (h p hp)
section
variable {P : Program} {w : World} {K : PySem.W.Frag} {mg : Str → Option Value} {base : Heap}
/-- no net | a net and no places for it -/
def BadV (K : PySem.W.Frag) (C CN CP : Addr) (x v : V) (H : Hp) (E : XK) : Prop :=
  ((∀ H', Ex H H' → NoInst K C H' x) ∧ ∀ H', Ex H H' → E (.ref CN) none H') ∨ ∃ m ks o, NetV K C H x m ks ∧ ArV K H v o ∧ okAll m o = false ∧ ∀ H', Ex H H' → E (.ref CP) none H'
def spNeedPl (K : PySem.W.Frag) (C CN CP : Addr) : Sp := fun vs H Q E => ∃ x v, vs = [x, v] ∧ (BadV K C CN CP x v H E ∨ ∃ m ks o, NetV K C H x m ks ∧ ArV K H v o ∧ okAll m o = true ∧ RetV .non H Q)
theorem scNp : FnScope ["net", "places"] ["net", "places"] (defScope s_need_places) := ⟨rfl, rfl, rfl, by decide +kernel, rfl, by decide +kernel, by decide +kernel⟩
theorem ok_needPl {f fA fNe fP fN fW C fI CN CP : Addr} {fd fdA fdNe fdP fdN fdW : FuncData} (F : Fun K "need_places" "need_places" s_need_places f fd) (B : CkB mg) (T : NtF K mg C fI) (I : InsF K C) (XN : ExF K mg "BadNet" CN) (XP : ExF K mg "BadPlaces" CP) (gm : ∃ t, mg nMostPlace = some (.int 1000000 t))
    (FNe : Fun K "need_net" "need_net" s_need_net fNe fdNe) (mgNe : mg "need_net" = some (.ref fNe)) (FA : Fun K "are_places" "are_places" s_are_places fA fdA) (mgA : mg "are_places" = some (.ref fA)) (FP : Fun K "is_place" "is_place" s_is_place fP fdP) (mgP : mg "is_place" = some (.ref fP))
    (FN : Fun K "is_number" "is_number" s_is_number fN fdN) (mgN : mg "is_number" = some (.ref fN)) (FW : Fun K "is_whole" "is_whole" s_is_whole fW fdW) (mgW : mg "is_whole" = some (.ref fW)) :
    FnOk P w K mg base (L2.CX P w) 5 f fd ["net", "places"] (spNeedPl K C CN CP) := by
  have GA : FnOk P w K mg base CX0 4 fA fdA ["net", "value"] (spArePl K C) := ok_arePl FA B T gm FP mgP FN mgN FW mgW
  have bA : Binds K fdA ["net", "value"] [] := FA.binds (ps := ["net", "value"]) fun _ _ _ _ _ _ us hl => match us, hl with | [_, _], _ => rfl
  have GNe : FnOk P w K mg base (L2.CX P w) 1 fNe fdNe ["net"] (spNeed K C CN) := ok_need FNe T I XN B.isi
  have bNe : Binds K fdNe ["net"] [] := FNe.binds (ps := ["net"]) fun _ _ _ _ _ _ us hl => match us, hl with | [_], _ => rfl
  refine F.okX scNp (fun vs H Q E h => ?_) (fun cdv A outer s H vs Q E hr h => ?_)
  · obtain ⟨x, v, rfl, _⟩ := h
    rfl
  · obtain ⟨x, v, rfl, h⟩ := h
    have hr1 := hr.mono (show 1 ≤ 4 by decide)
    refine ⟨_, pss_cons (ps_expr (pe_call (E := E) GNe hr1 (by rfl) mgNe FNe.kp bNe .nil (passes_call (W := WxE E) (takes_of rfl rfl rfl rfl) fun _ _ _ _ h => h) (pa_cons (pv 0) pa_nil)))
      (pss_one (ps_if (pt_not (pt_val (pe_call GA hr (by rfl) mgA FA.kp bA .nil pass0 (pa_cons (pv 0) (pa_cons (pv 1) pa_nil))))) (pss_one (ps_raiseP (W := WxE E) XP rfl (takes_of rfl rfl rfl rfl) (by rfl))) pss_nil)), ?_⟩
    rcases h with (⟨hx, hE⟩ | ⟨m, ks, o, hN, hv, hf, hE⟩) | ⟨m, ks, o, hN, hv, hf, k⟩
    · exact ⟨_, rfl, x, rfl, .inr ⟨hx, hE⟩⟩
    · refine ⟨_, rfl, x, rfl, .inl ⟨m, ks, hN, fun H1 e1 => ⟨_, rfl, _, rfl, x, v, m, ks, o, rfl, hN.up e1, hv.up e1, fun H2 e2 => ⟨false, ?_, ?_⟩⟩⟩⟩
      · rw [hf]
      · exact iteT (hE H2 (e1.trans e2))
    · refine ⟨_, rfl, x, rfl, .inl ⟨m, ks, hN, fun H1 e1 => ⟨_, rfl, _, rfl, x, v, m, ks, o, rfl, hN.up e1, hv.up e1, fun H2 e2 => ⟨true, ?_, ?_⟩⟩⟩⟩
      · rw [hf]
      · exact iteF (k.go (e1.trans e2))
/-- a net and places for it -/
def GoodV (K : PySem.W.Frag) (C : Addr) (x v : V) (H : Hp) (m : Nat) (ks : List (Int × Int)) (ps : List (Int × Int)) : Prop := NetV K C H x (m : Int) ks ∧ OkNet (m : Int) ks ∧ ∃ a xs, v = .ref a ∧ SqT K H a xs ∧ PrL H xs ps ∧ ps.length = m ∧ ∀ p ∈ ps, Near p
theorem GoodV.up {C : Addr} {x v : V} {H H' : Hp} {m : Nat} {ks : List (Int × Int)} {ps : List (Int × Int)} (e : Ex H H') (h : GoodV K C x v H m ks ps) : GoodV K C x v H' m ks ps :=
  let ⟨h1, h2, a, xs, h3, h4, h5, h6⟩ := h
  ⟨h1.up e, h2, a, xs, h3, ex_t e h4, h5.up e, h6⟩
theorem GoodV.arr {C : Addr} {x v : V} {H : Hp} {m : Nat} {ks : List (Int × Int)} {ps : List (Int × Int)} (h : GoodV K C x v H m ks ps) : ∃ o, ArV K H v o ∧ okAll (m : Int) o = true := by
  obtain ⟨h1, h2, a, xs, rfl, h4, h5, h6, h7⟩ := h
  have := h5.len
  have := h2.hi
  exact ⟨_, .tup h4 (itl_of h5) (by omega), okAll_near h7 (by rw [h6])⟩
end
end My
/-! enumerate(tuple) -/
namespace EnT
open PySem PySem.Spec PyProof.Rows
section
variable {prog : Program} {w : World} {A : Around} {E : Value → Shared → Prop} {s : Shared}
theorem next_item {I T : Addr} {n : Nat} {vs : Array Value} {y : Value} {Q : Value → Shared → Prop} (atI : s.heap.IsTupleIter I T n) (tup : s.heap.IsTuple T vs) (hy : vs[n]? = some y)
    (k : ∀ g, g.IsTupleIter I T (n + 1) → Heap.SameBut I s.heap g → Q y { s with heap := g }) : wpAny (model prog w) A (Builtin.SmallTypes.nextOf (.ref I)) Q E s := by
  obtain ⟨oi, gi, ci, di⟩ := id atI
  obtain ⟨ot, gt, _, nt, dt⟩ := tup
  unfold Builtin.SmallTypes.nextOf
  refine wpAny_bind (wpAny_callSpecial?_slot (name := Str.ofString "__next__") atI.typeIs F.slot_tuple_iterator_next (wpAny_call_entry F.slot_tuple_iterator_next atI.typeIs F.entry_tuple_iterator_next ?_ (F.args_tuple_iterator_next_1 _)))
  show wpAny _ _ (field (.ref I) 0 >>= _) _ _ s
  refine wpAny_bind (wpAny_field gi di (x := .ref T) rfl ?_)
  show wpAny _ _ (if (Value.ref T == Value.none) = true then _ else _) _ _ s
  rw [if_neg (show ¬ ((Value.ref T == Value.none) = true) from Bool.false_ne_true)]
  show wpAny _ _ (field (.ref I) 1 >>= _) _ _ s
  refine wpAny_bind (wpAny_field gi di (x := .int n 0) rfl ?_)
  show wpAny _ _ (seqItems? (.ref T) >>= _) _ _ s
  refine wpAny_bind (wpAny_seqItems gt dt ?_)
  simp only [Int.toNat_natCast, hy]
  refine wpAny_bind (wpAny_setField gi di (by simp) (wpAny_pure ⟨y, rfl, wpAny_pure (k _ ⟨_, Heap.get?_update_self _ gi (Obj.isFreed_of_fields (Obj.data_mapFields di _)), (Obj.cls_mapFields ..).trans ci, ?_⟩ (Heap.SameBut.update ..))⟩))
  rw [Obj.data_mapFields di]
  simp [rawInt]
theorem next_end {I T : Addr} {n : Nat} {vs : Array Value} {Q : Value → Shared → Prop} (calm : A.handled = none) (atI : s.heap.IsTupleIter I T n) (tup : s.heap.IsTuple T vs) (hy : vs[n]? = none)
    (k : ∀ g e, Heap.ExtBut I s.heap g → (∃ o, g.get? e = some o ∧ o.cls = .type "StopIteration") → E (.ref e) { s with heap := g }) : wpAny (model prog w) A (Builtin.SmallTypes.nextOf (.ref I)) Q E s := by
  obtain ⟨oi, gi, ci, di⟩ := id atI
  obtain ⟨ot, gt, _, nt, dt⟩ := tup
  unfold Builtin.SmallTypes.nextOf
  refine wpAny_bind (wpAny_callSpecial?_slot (name := Str.ofString "__next__") atI.typeIs F.slot_tuple_iterator_next (wpAny_call_entry F.slot_tuple_iterator_next atI.typeIs F.entry_tuple_iterator_next ?_ (F.args_tuple_iterator_next_1 _)))
  show wpAny _ _ (field (.ref I) 0 >>= _) _ _ s
  refine wpAny_bind (wpAny_field gi di (x := .ref T) rfl ?_)
  show wpAny _ _ (if (Value.ref T == Value.none) = true then _ else _) _ _ s
  rw [if_neg (show ¬ ((Value.ref T == Value.none) = true) from Bool.false_ne_true)]
  show wpAny _ _ (field (.ref I) 1 >>= _) _ _ s
  refine wpAny_bind (wpAny_field gi di (x := .int n 0) rfl ?_)
  show wpAny _ _ (seqItems? (.ref T) >>= _) _ _ s
  refine wpAny_bind (wpAny_seqItems gt dt ?_)
  simp only [Int.toNat_natCast, hy]
  refine wpAny_bind (wpAny_rule (wpAny_bind (wpAny_setField gi di (by simp) ?_)))
  refine wpAny_bind (m := newExc (.type "StopIteration") []) ?_
  simp only [newExc, newTuple]
  refine wpAny_bind (wpAny_newObj_type (by
    refine wpAny_bind (m := firstArgMember _ _) (wpAny_of_eq (a := Value.none) (by first | rfl | (simp only [firstArgMember]; rfl)) (wpAny_newObj_type ?_ (by size_fits)))
    simp only [raiseNew]
    refine wpAny_bind (wpAny_handled ?_)
    first
      | rw [show A.in1.handled = none from calm]
      | rw [calm]
    refine wpAny_bind (wpAny_pure (wpAny_throw (k _ _ (((Heap.SameBut.update ..).extBut.push _).push _) ⟨_, Heap.get?_push_size _ rfl, rfl⟩)))) (by size_fits))
theorem draws (calm : A.handled = none) (I T : Addr) (ne : T ≠ I) (vs : Array Value) : Draws prog w A I [I, T] vs.size (fun i v => vs[i]? = some v) (fun i h => h.IsTupleIter I T i ∧ h.IsTuple T vs) where
  live := fun _ _ st => let ⟨o, ho, _⟩ := st.1; ⟨o, ho⟩
  frame := fun _ _ _ st hk => ⟨let ⟨o, e, r⟩ := st.1; ⟨o, hk I (by simp) o e, r⟩, let ⟨o, e, r⟩ := st.2; ⟨o, hk T (by simp) o e, r⟩⟩
  item := fun i s Q E hi st hQ => next_item st.1 st.2 (y := vs[i]) (by simp [hi]) fun g a b => hQ _ g s.toks (by simp [hi]) ⟨a, st.2.extBut b.extBut ne⟩ b
  done := fun s Q E st hE => next_end calm st.1 st.2 (by simp) hE
theorem meets_new (l : Addr) (items : Array Value) (n : Nat) (dct : Option Addr) (sl : Array (Option Value)) :
    Meets (Builtin.«enumerate.__new__» ⟨[.type "enumerate", .ref l], []⟩) (fun _ R s => s.heap.get? l = some { cls := .type "tuple", dict := dct, data := .seq items n, slots := sl } ∧
      R (.ok (.ret (.ref (s.heap.push { cls := .type "tuple_iterator", data := .fields #[.ref l, .int 0 0] }).objs.size)))
        { s with heap := (s.heap.push { cls := .type "tuple_iterator", data := .fields #[.ref l, .int 0 0] }).push { cls := .type "enumerate", data := .fields #[.none, .bool false, .ref s.heap.objs.size, rawInt 0, .none, .none] } }) :=
  .of_wp fun prog w A R s h => by
    obtain ⟨hp, g, d, tk, os⟩ := s
    obtain ⟨hl, h⟩ := h
    have asks := sub_enumerate
    have tup : Heap.IsTuple (Shared.heap ⟨hp, g, d, tk, os⟩) l items := ⟨_, hl, rfl, n, rfl⟩
    wp_walk using AutoSeq1.wpAny_loadPart' hl
    refine wpAny_stack_any fun st => wpAny_pure ?_
    split
    · rename_i c _ _ _ _ _
      cases (c == Value.type "enumerate")
      · wp_walk using AutoSeq1.wpAny_loadPart' hl, wpAny_pyIter_tuple tup
        exact ⟨_, rfl, h⟩
      · wp_walk using AutoSeq1.wpAny_loadPart' hl, wpAny_pyIter_tuple tup
        exact ⟨_, rfl, h⟩
    · wp_walk using AutoSeq1.wpAny_loadPart' hl, wpAny_pyIter_tuple tup
      exact ⟨_, rfl, h⟩
theorem call_enum {l : Addr} {items : Array Value} {Q : Value → Shared → Prop} (tup : s.heap.IsTuple l items)
    (k : ∀ h', IsEnum h' (s.heap.objs.size + 1) s.heap.objs.size 0 .none → h'.IsTupleIter s.heap.objs.size l 0 → h'.objs.size = s.heap.objs.size + 2 → (∀ b o, s.heap.get? b = some o → h'.get? b = some o) → Q (.ref (s.heap.objs.size + 1)) { s with heap := h' }) :
    wpAny (model prog w) A (call (.type "enumerate") [.ref l]) Q E s := by
  obtain ⟨⟨c, dct, dt, sl⟩, gl, cl, n, dl⟩ := tup
  have cl : c = .type "tuple" := cl
  have dl : dt = .seq items n := dl
  subst cl dl
  refine callType_new F.called_enumerate (by decide) (F.typeCall_enumerate_1 _) (F.newCall_enumerate_1 _) (fun obj => F.args_object_init_2 obj _) F.entry_enumerate_new (meets_new l items n dct sl) ⟨gl, ?_⟩
  have sz : (s.heap.push { cls := .type "tuple_iterator", data := .fields #[.ref l, .int 0 0] }).objs.size = s.heap.objs.size + 1 := Heap.size_push ..
  show _ ∧ _
  rw [sz]
  have en : IsEnum ((s.heap.push { cls := .type "tuple_iterator", data := .fields #[.ref l, .int 0 0] }).push { cls := .type "enumerate", data := .fields #[.none, .bool false, .ref s.heap.objs.size, rawInt 0, .none, .none] }) (s.heap.objs.size + 1) s.heap.objs.size 0 .none := by
    have z := Heap.get?_push_size (s.heap.push { cls := .type "tuple_iterator", data := .fields #[.ref l, .int 0 0] }) (o := { cls := .type "enumerate", data := .fields #[.none, .bool false, .ref s.heap.objs.size, rawInt 0, .none, .none] }) rfl
    rw [sz] at z
    exact z
  exact ⟨⟨_, en, rfl⟩, k _ en ⟨_, Heap.get?_push_of_some _ (Heap.get?_push_size _ rfl), rfl, rfl⟩ (by rw [Heap.size_push, sz]) fun b o e => Heap.get?_push_of_some _ (Heap.get?_push_of_some _ e)⟩
end
end EnT
/-! places_text, places_of_text -/
namespace My
open PySem PySem.Spec PyProof.Rows L2 Evl Kpt TL
/-- the line of a place -/
def lineP (p : Int × Int) : Str := "place " ++ numT p.1 ++ " " ++ numT p.2
def textP (ps : List (Int × Int)) : Str := Txt.join "\n" (ps.map lineP)
/-- what a line tells -/
def absI (i : Int) : Int := if i < 0 then -i else i
def placeP (line : Str) : Option (Int × Int) := match numsB "place" line with
  | some [a, b] => if absI a ≤ 1000000 ∧ absI b ≤ 1000000 then some (a, b) else none
  | _ => none
/-- the first line that cannot stand -/
def badFrom (m : Nat) : Nat → List Str → Option Nat
  | _, [] => none
  | i, l :: r => if m ≤ i ∨ placeP l = none then some i else badFrom m (i + 1) r
def dueP (m : Nat) (lines : List Str) : Int := match badFrom m 0 lines with
  | some i => (i : Int) + 1
  | none => if lines.length = m then -1 else (lines.length : Int) + 1
theorem bad_step {m : Nat} : ∀ (lines : List Str) (k i : Nat) (hi : i < lines.length), badFrom m k lines = none ∨ (∃ j, badFrom m k lines = some j ∧ k + i ≤ j) → (m ≤ k + i ∨ placeP lines[i] = none) → badFrom m k lines = some (k + i)
  | [], _, _, hi, _, _ => by cases hi
  | l :: r, k, 0, _, _, hb => by
    unfold badFrom
    rw [if_pos (by simpa using hb)]
    rfl
  | l :: r, k, i + 1, hi, hg, hb => by
    have hn : ¬ (m ≤ k ∨ placeP l = none) := fun z => by
      unfold badFrom at hg
      rw [if_pos z] at hg
      rcases hg with hg | ⟨j, hg, hj⟩
      · cases hg
      · have := Option.some.inj hg
        omega
    unfold badFrom at hg ⊢
    rw [if_neg hn] at hg ⊢
    have := bad_step r (k + 1) i (by simpa using hi) (by rw [show k + 1 + i = k + (i + 1) by omega]; exact hg) (by
      rw [show k + 1 + i = k + (i + 1) by omega]
      simpa using hb)
    rw [this]
    congr 1
    omega
theorem bad_some {m : Nat} : ∀ (lines : List Str) (k : Nat) {j : Nat}, badFrom m k lines = some j → ∃ h : k ≤ j ∧ j - k < lines.length, m ≤ j ∨ placeP (lines[j - k]'h.2) = none
  | [], _, _, h => by cases h
  | l :: r, k, j, h => by
    unfold badFrom at h
    split at h
    · rename_i hc
      have := Option.some.inj h
      subst this
      exact ⟨⟨Nat.le_refl _, by simp⟩, by simpa using hc⟩
    · obtain ⟨⟨h1, h2⟩, h3⟩ := bad_some r (k + 1) h
      have e : j - k = (j - (k + 1)) + 1 := by omega
      refine ⟨⟨by omega, by simp; omega⟩, ?_⟩
      rcases h3 with h3 | h3
      · exact .inl h3
      · right
        have : (l :: r)[j - k]'(by simp; omega) = r[j - (k + 1)]'h2 := by
          simp only [e, List.getElem_cons_succ]
        rw [this]
        exact h3
theorem bad_none {m : Nat} : ∀ (lines : List Str) (k : Nat), (∀ i (hi : i < lines.length), ¬ (m ≤ k + i ∨ placeP lines[i] = none)) → badFrom m k lines = none
  | [], _, _ => rfl
  | l :: r, k, h => by
    have h0 := h 0 (by simp)
    unfold badFrom
    rw [if_neg (by simpa using h0)]
    refine bad_none r (k + 1) fun i hi => ?_
    have := h (i + 1) (by simpa using hi)
    rw [show k + 1 + i = k + (i + 1) by omega]
    simpa using this
theorem placeP_num {l : Str} {a b : Int} (h : placeP l = some (a, b)) : numsB "place" l = some [a, b] := by
  unfold placeP at h
  split at h
  · rename_i x y e
    split at h
    · have := Option.some.inj h
      injection this with h1 h2
      rw [e, h1, h2]
    · cases h
  · cases h
theorem sqt_upl {K : PySem.W.Frag} {H : Hp} {l a : Addr} {o : HO} {zs xs : List V} (hl : H l = some (.lst zs)) (h : SqT K H a xs) : SqT K (upd H l o) a xs := by
  have ne : ∀ u : HO, H a = some u → (∀ ys, u ≠ .lst ys) → upd H l o a = some u := fun u hu hn => by
    rw [upd_ne (fun z => ?_)]
    · exact hu
    · rw [z, hl] at hu
      exact hn zs (Option.some.inj hu).symm
  rcases h with (h | ⟨o', h⟩) | h
  · exact .inl (.inl (ne _ h fun ys z => by cases z))
  · exact .inl (.inr ⟨o', ne _ h fun ys z => by cases z⟩)
  · exact .inr h
/-- pairs of ints, each a tuple -/
inductive PlS (K : PySem.W.Frag) (H : Hp) : List V → List (Int × Int) → Prop
  | nil : PlS K H [] []
  | cons {t : Addr} {p : Int × Int} {vs : List V} {ps : List (Int × Int)} : SqT K H t [.int p.1, .int p.2] → PlS K H vs ps → PlS K H (.ref t :: vs) (p :: ps)
section
variable {K : PySem.W.Frag} {H H' : Hp}
theorem PlS.up (e : Ex H H') : ∀ {vs ps}, PlS K H vs ps → PlS K H' vs ps
  | _, _, .nil => .nil
  | _, _, .cons h r => .cons (ex_t e h) (r.up e)
theorem PlS.upl {l : Addr} {o : HO} {zs : List V} (hl : H l = some (.lst zs)) : ∀ {vs ps}, PlS K H vs ps → PlS K (upd H l o) vs ps
  | _, _, .nil => .nil
  | _, _, .cons h r => .cons (sqt_upl hl h) (r.upl hl)
theorem PlS.app : ∀ {vs ps us qs}, PlS K H vs ps → PlS K H us qs → PlS K H (vs ++ us) (ps ++ qs)
  | _, _, _, _, .nil, k => k
  | _, _, _, _, .cons h r, k => .cons h (r.app k)
theorem PlS.len : ∀ {vs ps}, PlS K H vs ps → vs.length = ps.length
  | _, _, .nil => rfl
  | _, _, .cons _ r => congrArg (· + 1) r.len
theorem PlS.dq : ∀ {vs ps}, PlS K H vs ps → DqAll K H vs (ps.map prD)
  | _, _, .nil => .nil
  | _, _, .cons h r => .cons (.tup h (.cons (.int _) (.cons (.int _) .nil))) r.dq
end
theorem dq_pls {K : PySem.W.Frag} {H : Hp} : ∀ {xs : List V} {ps : List (Int × Int)}, DqAll K H xs (ps.map prD) → PlS K H xs ps
  | [], [], _ => .nil
  | [], _ :: _, h => by cases h
  | _ :: _, [], h => by cases h
  | x :: xs, p :: ps, h => by
    cases h with
    | cons h r =>
      have h : Dq K H x (.tuple [.int p.1, .int p.2]) := h
      cases h with
      | @tup a ys _ hs hx =>
        have hy : DqAll K H ys ([p.1, p.2].map .int) := hx
        rw [hy.ints_eq] at hs
        exact .cons hs (dq_pls r)
theorem PlS.get {K : PySem.W.Frag} {H : Hp} : ∀ {vs ps}, PlS K H vs ps → ∀ (i : Nat) (v : V), vs[i]? = some v → ∃ p t, ps[i]? = some p ∧ v = .ref t ∧ SqT K H t [.int p.1, .int p.2]
  | _, _, .cons (t := t) (p := p) h r, 0, v, e => ⟨p, t, rfl, by cases e; rfl, h⟩
  | _, _, .cons h r, i + 1, v, e => r.get i v e
theorem PlS.itl {K : PySem.W.Frag} {H : Hp} : ∀ {vs ps}, PlS K H vs ps → ItL K H vs (ps.map fun p => some [V.int p.1, V.int p.2])
  | _, _, .nil => .nil
  | _, _, .cons h r => .cons (.tup h (fun y hy => by
      rcases List.mem_cons.mp hy with e | hy
      · rw [e]; rfl
      · rw [List.mem_singleton.mp hy]; rfl) (by show 2 ≤ 100; decide)) r.itl
section
variable {P : Program} {w : World} {K : PySem.W.Frag} {mg : Str → Option Value} {base : Heap}
def spPtx (K : PySem.W.Frag) (C CN CP : Addr) : Sp := fun vs H Q E => ∃ x v, vs = [x, v] ∧ (BadV K C CN CP x v H E ∨ ∃ (m : Nat) (ks ps : List (Int × Int)), NetV K C H x (m : Int) ks ∧ m ≤ 24 ∧ Dq K H v (.tuple (ps.map prD)) ∧ ps.length = m ∧ (∀ p ∈ ps, Near p) ∧ RetV (.str (textP ps)) H Q)
abbrev nPtx : List Str := ["net", "places", "across", "up"]
theorem scPtx : FnScope nPtx ["net", "places"] (defScope s_places_text) := ⟨rfl, rfl, rfl, by decide +kernel, rfl, by decide +kernel, by decide +kernel⟩
theorem near_abs {p : Int × Int} (h : Near p) : p.1.natAbs < 10 ^ 7 ∧ p.2.natAbs < 10 ^ 7 := by
  obtain ⟨h1, h2, h3, h4⟩ := h
  omega
theorem numT_len {n : Int} (h : n.natAbs < 10 ^ 7) : (numT n).length ≤ 8 := by
  rw [len_tl]
  by_cases hn : 0 ≤ n
  · obtain ⟨m, rfl⟩ := Int.eq_ofNat_of_zero_le hn
    rw [tl_numN]
    have := numL_len (n := m) (k := 7) (by decide) (by omega)
    omega
  · obtain ⟨m, rfl⟩ : ∃ m : Nat, n = -((m + 1 : Nat) : Int) := ⟨(-n).toNat - 1, by omega⟩
    rw [tl_numM, List.length_cons]
    have := numL_len (n := m + 1) (k := 7) (by decide) (by omega)
    omega
theorem lineP_len {p : Int × Int} (h : Near p) : (lineP p).length ≤ 30 := by
  obtain ⟨h1, h2⟩ := near_abs h
  have a := numT_len h1
  have b := numT_len h2
  unfold lineP
  rw [Str.length_append, Str.length_append, Str.length_append]
  have : ("place " : Str).length = 6 := by decide +kernel
  have : (" " : Str).length = 1 := by decide +kernel
  omega
theorem ok_ptx {f C CN CP fI fNe fNp : Addr} {fd fdNe fdNp : FuncData} (F : Fun K "places_text" "places_text" s_places_text f fd) (gS : mg "str" = none) (Ne : CalX P w K mg base (L2.CX P w) 1 "need_net" ["net"] (spNeed K C CN) fNe fdNe)
    (Np : CalX P w K mg base (L2.CX P w) 5 "need_places" ["net", "places"] (spNeedPl K C CN CP) fNp fdNp) : FnOk P w K mg base (L2.CX P w) 6 f fd ["net", "places"] (spPtx K C CN CP) := by
  refine F.okX scPtx (fun vs H Q E h => ?_) (fun cdv A outer s H vs Q E hr h => ?_)
  · obtain ⟨x, v, rfl, _⟩ := h
    rfl
  · obtain ⟨x, v, rfl, h⟩ := h
    refine ⟨_, pss_cons (ps_expr (pe_call (E := E) Ne.ok (hr.mono (by decide)) (by rfl) Ne.g Ne.kp Ne.b .nil (passes_call (W := WxE E) (takes_of rfl rfl rfl rfl) fun _ _ _ _ h => h) (pa_cons (pv 0) pa_nil)))
      (pss_cons (ps_expr (pe_call (E := E) Np.ok (hr.mono (by decide)) (by rfl) Np.g Np.kp Np.b .nil (passes_call (W := WxE E) (takes_of rfl rfl rfl rfl) fun _ _ _ _ h => h) (pa_cons (pv 0) (pa_cons (pv 1) pa_nil))))
      (pss_one (ps_ret (pe_join pe_str (pe_lc (own := [("across", 2), ("up", 3)]) (g := gTup K 2 (gCons (gName 2) (gCons (gName 3) gNil))) rfl scPtx.nd (pi_tup (pv 1)) (blkOk_by (N := nPtx) (sc := defScope s_places_text) (by decide +kernel))
        (fun _ _ _ _ _ => pg_tup rfl (pgs_cons (pg_name (i := 2) scPtx.nd rfl (Or.inl rfl)) (pgs_cons (pg_name (i := 3) scPtx.nd rfl (Or.inl rfl)) pgs_nil)))
        (fun _ _ _ _ _ => pts_nil) (fun _ _ _ _ _ => pe_op op_add_str (pe_op op_add_str (pe_op op_add_str pe_str (pe_callTy call_str_int (by rfl) gS boot_strT (pa_cons (pv 2) pa_nil))) pe_str) (pe_callTy call_str_int (by rfl) gS boot_strT (pa_cons (pv 3) pa_nil)))))))), ?_⟩
    rcases h with (⟨hx, hE⟩ | ⟨m, ks, o, hN, hv, hf, hE⟩) | ⟨m, ks, ps, hN, hm24, hdv, hpl, h7, k⟩
    · exact ⟨_, rfl, x, rfl, .inr ⟨hx, hE⟩⟩
    · refine ⟨_, rfl, x, rfl, .inl ⟨m, ks, hN, fun H1 e1 => ⟨_, rfl, _, rfl, x, v, rfl, .inl (.inr ⟨m, ks, o, hN.up e1, hv.up e1, hf, fun H' e' => hE H' (e1.trans e')⟩)⟩⟩⟩
    · cases hdv with
      | @tup a xs _ hsx hdx =>
      have hpls := dq_pls hdx
      have hl := hpls.len
      refine ⟨_, rfl, x, rfl, .inl ⟨m, ks, hN, fun H1 e1 => ⟨_, rfl, _, rfl, x, .ref a, rfl, .inr ⟨m, ks, _, hN.up e1, .tup (ex_t e1 hsx) (hpls.up e1).itl (by omega), okAll_near h7 (by rw [hpl]), fun H2 e2 => ?_⟩⟩⟩⟩
      have h4 := ex_t (e1.trans e2) hsx
      have h5 := hpls.up (e1.trans e2)
      refine ⟨⟨_, rfl⟩, ?_⟩
      refine el_is (ys := (ps.map lineP).map V.str) (el_lcW (σ := [some x, some (.ref a), none, none]) (H := H2) (n := xs.length) (Y := YAt xs) (fun _ => true) (fun i => ((ps.map lineP).map V.str).getD i .non) (by omega)
        (fun H4 e4 R hR => ⟨_, rfl, a, rfl, ⟨xs, ex_t e4 h4⟩, hR _ H4 (Ex.refl _) (Walk.mono (walk_tup (K := K) (a := a) (xs := xs)) (fun H' e' => ex_t (e4.trans e') h4) fun _ _ _ _ _ _ y => y)⟩)
        (fun n z H4 H5 hn e4 y => ?_)) ?_ H2 (Ex.refl _) _ fun p H4 hp e4 h4' => ?_
      · obtain ⟨rfl, hy⟩ := y
        obtain ⟨p, T, hp, rfl, hT⟩ := h5.get n z hy
        have hT2 := ex_t e4 hT
        have hnear := h7 p (List.mem_of_getElem? hp)
        obtain ⟨n1, n2⟩ := near_abs hnear
        have l1 := numT_len n1
        have l2 := numT_len n2
        have c6 : ("place " : Str).length = 6 := by decide +kernel
        have c1 : (" " : Str).length = 1 := by decide +kernel
        have e : ((ps.map lineP).map V.str).getD n .non = V.str (lineP p) := by
          rw [List.getD_eq_getElem?_getD, List.getElem?_map, List.getElem?_map, hp]
          rfl
        have big : ∀ i : Int, i.natAbs < 10 ^ 7 → i.natAbs < 2 ^ 1000 := fun i h => Nat.lt_of_lt_of_le h (by decide +kernel)
        refine ⟨Ex.refl _, [some x, some (.ref a), some (.int p.1), some (.int p.2)], fun R hR => ⟨T, _, rfl, hT2, rfl, _, _, rfl, _, _, rfl, rfl, hR⟩, rfl, fun H6 e6 Q6 q6 => q6 H6 (Ex.refl _), fun _ => ?_⟩
        rw [e]
        exact ev_catS (ev_catS (ev_catS ev_c (ev_strI (ev_var rfl) (big _ n1)) (by omega)) ev_c (by rw [Str.length_append]; omega)) (ev_strI (ev_var rfl) (big _ n2)) (by rw [Str.length_append, Str.length_append]; omega)
      · have er := range_getD ((ps.map lineP).map V.str) .non
        rw [List.length_map, List.length_map] at er
        rw [given_all, hl]
        exact er
      · refine ⟨_, p, ps.map lineP, rfl, rfl, .inl (SqL.of h4'), ?_, k.go ((e1.trans e2).trans e4)⟩
        have c1 : ("\n" : Str).length = 1 := by decide +kernel
        have hs : ∀ l : List (Int × Int), (∀ p ∈ l, Near p) → ((l.map lineP).map (·.length)).sum ≤ 30 * l.length := fun l => by
          induction l with
          | nil => exact fun _ => Nat.le_refl _
          | cons q r ih =>
            intro hq
            have := ih fun p hp => hq p (List.mem_cons_of_mem _ hp)
            have h1 := lineP_len (hq q List.mem_cons_self)
            simp only [List.map_cons, List.sum_cons, List.length_cons] at this ⊢
            omega
        have := hs ps h7
        rw [List.length_map, c1]
        omega
end
end My
/-! places_of_text -/
namespace My
open PySem PySem.Spec PyProof.Rows L2 Evl Kpt TL
section
variable {K : PySem.W.Frag} {σ : L2.St} {B H : Hp} {te ta tb : TE}
theorem ev_isN0 {x : V} (h : Ev te σ H x) : Ev (tIsN te) σ H (.bl (decide (x = .non))) := fun H1 e Q q => h H1 e _ fun H2 e2 => q H2 e2
theorem ev_abs {i : Int} (h : Ev te σ H (.int i)) : Ev (tCB (fun xs H Q => ∃ i : Int, xs = [.int i] ∧ Q (.int (if i < 0 then -i else i)) H) (tCons te tNil)) σ H (.int (absI i)) := fun H1 e Q q => h H1 e _ fun H2 e2 => ⟨i, rfl, q H2 e2⟩
theorem nb_none {v : V} {o : Option (List Int)} (h : Dq K H v (nbD o)) : decide (v = .non) = o.isNone := by
  cases o with
  | none => rw [show v = .non from by cases h; rfl]; rfl
  | some ns =>
    rw [decide_eq_false]
    · rfl
    · intro z
      subst z
      cases h
end
section
variable {P : Program} {w : World} {K : PySem.W.Frag} {mg : Str → Option Value} {base : Heap}
def spPot (K : PySem.W.Frag) (C CN CT : Addr) : Sp := fun vs H Q E => ∃ x v, vs = [x, v] ∧ (((∀ H', Ex H H' → NoInst K C H' x) ∧ ∀ H', Ex H H' → E (.ref CN) none H') ∨
  ∃ (m : Nat) (ks : List (Int × Int)), NetV K C H x (m : Int) ks ∧ m ≤ 24 ∧ ((∃ d, Dq K H v d ∧ isStrD d = false ∧ RaT E CT H 0) ∨ ∃ t : Str, v = .str t ∧ t.length ≤ 20000 ∧
    (dueP m (linesT t) ≠ -1 → RaT E CT H (dueP m (linesT t))) ∧ (dueP m (linesT t) = -1 → ∀ u H', Ex H H' → Dq K H' u (.tuple (((linesT t).filterMap placeP).map prD)) → Q u H')))
abbrev nPot : List Str := ["net", "text", "lines", "found", "at", "line", "place"]
theorem scPot : FnScope nPot ["net", "text"] (defScope s_places_of_text) := ⟨rfl, rfl, rfl, by decide +kernel, rfl, by decide +kernel, by decide +kernel⟩
theorem due_bad {m : Nat} {lines : List Str} {i : Nat} (h : badFrom m 0 lines = some i) : dueP m lines = (i : Int) + 1 := by
  unfold dueP
  rw [h]
theorem lines_len {t : Str} : (linesT t).length ≤ t.length + 1 ∧ ∀ l ∈ linesT t, l.length ≤ t.length := by
  unfold linesT
  split
  · exact ⟨by simp, fun l h => by cases h⟩
  · have := split_count sep_nl t
    exact ⟨by omega, fun l h => split_len sep_nl h⟩
theorem all_some {α β : Type} {f : α → Option β} : ∀ l : List α, (∀ x ∈ l, f x ≠ none) → (l.filterMap f).length = l.length
  | [], _ => rfl
  | a :: r, h => by
    obtain ⟨b, hb⟩ : ∃ b, f a = some b := by
      cases e : f a with
      | none => exact absurd e (h a List.mem_cons_self)
      | some b => exact ⟨b, rfl⟩
    rw [List.filterMap_cons, hb]
    exact congrArg (· + 1) (all_some r fun x hx => h x (List.mem_cons_of_mem _ hx))
theorem V_int2 {n : Nat} : (!decide (V.int (n : Int) = V.int 2)) = !decide (n = 2) := by
  congr 1
  rw [Bool.eq_iff_iff, decide_eq_true_eq, decide_eq_true_eq]
  exact ⟨fun z => by injection z with z; omega, fun z => by rw [z]; rfl⟩
theorem dqs_ints2 {H : Hp} {v : V} {a b : Int} (h : Dq K H v (.tuple ([a, b].map .int))) : ∃ p, v = .ref p ∧ SqT K H p [.int a, .int b] := by
  cases h with
  | @tup p xs _ hs hx =>
    rw [hx.ints_eq] at hs
    exact ⟨p, rfl, hs⟩
theorem ok_pot {f C CN CT fI fIT fNe fLn fNb : Addr} {fd fdNe fdLn fdNb : FuncData} {text file : Str} (F : Fun K "places_of_text" "places_of_text" s_places_of_text f fd) (B : NmB mg) (gE : mg "enumerate" = none) (gAb : mg "abs" = none) (T : NtF K mg C fI) {tM : Tok} (gM : mg "MOST_PLACE_texts" = some (.int 1000000 tM))
    (TT : IniC K CT fIT "line" text file) (gT : mg "BadText" = some (.ref CT)) (S : SupM P mg file "line") (Ne : CalX P w K mg base (L2.CX P w) 1 "need_net" ["net"] (spNeed K C CN) fNe fdNe)
    (Ln : CalX P w K mg base (L2.CX P w) 3 "lines_of" ["text"] (spLines K CT) fLn fdLn) (Nb : CalX P w K mg base CX0 2 "numbers_behind" ["line", "name"] (spNb K) fNb fdNb) : FnOk P w K mg base (L2.CX P w) 5 f fd ["net", "text"] (spPot K C CN CT) := by
  refine F.okX scPot (fun vs H Q E h => ?_) (fun cdv A outer s H vs Q E hr h => ?_)
  · obtain ⟨x, v, rfl, _⟩ := h
    rfl
  · obtain ⟨x, v, rfl, h⟩ := h
    refine ⟨_, pss_cons (ps_expr (pe_call (E := E) Ne.ok (hr.mono (by decide)) (by rfl) Ne.g Ne.kp Ne.b .nil (passes_call (W := WxE E) (takes_of rfl rfl rfl rfl) fun _ _ _ _ h => h) (pa_cons (pv 0) pa_nil)))
      (pss_cons (ps_par (i := 2) (j := 3) rfl scPot.nd rfl rfl (by decide) rfl rfl (pa_cons (pe_call (E := E) Ln.ok (hr.mono (by decide)) (by rfl) Ln.g Ln.kp Ln.b .nil (passes_call (W := WxE E) (takes_of rfl rfl rfl rfl) fun _ _ _ _ h => h) (pa_cons (pv 1) pa_nil)) (pa_cons (pe_lst pa_nil) pa_nil)) (by rfl))
      (pss_cons (ps_for PassesOwn.leaving rfl (pi_enum (by rfl) gE (pa_cons (pv 2) pa_nil)) (pg_tup rfl (pgs_cons (pg_name (i := 4) scPot.nd rfl (Or.inl rfl)) (pgs_cons (pg_name (i := 5) scPot.nd rfl (Or.inl rfl)) pgs_nil)))
        (pss_cons (ps_set (i := 6) scPot.nd rfl (Or.inl rfl) (pe_call Nb.ok (hr.mono (by decide)) (by rfl) Nb.g Nb.kp Nb.b .nil pass0 (pa_cons (pv 5) (pa_cons pe_str pa_nil))))
        (pss_cons (ps_if (PW.pt (pw_or (pt_cmp (pc_isN (pv 6))) (pw_or (pt_cmpR op_ge (pv 4) (pe_fld (pv 0) rfl) (nomark _)) (pw_or (pt_cmpR op_ne (pe_callB call_len_seq (by rfl) B.len PySem.boot_len (pa_cons (pv 6) pa_nil)) pe_int (nomark _))
            (pw_or1 (pt_cmpR op_gt (pe_callB (call_max2 rfl) (by rfl) B.max boot_max (pa_cons (pe_callB call_abs (by rfl) gAb (by decide +kernel) (pa_cons (pe_ix (show IxR _ (rIxT K) from ix_tup) (pv 6) pe_int (fun _ _ => rfl)) pa_nil))
              (pa_cons (pe_callB call_abs (by rfl) gAb (by decide +kernel) (pa_cons (pe_ix (show IxR _ (rIxT K) from ix_tup) (pv 6) pe_int (fun _ _ => rfl)) pa_nil)) pa_nil))) (pe_glob (v := .int 1000000) (by rfl) gM ⟨_, rfl⟩) (nomark _)))))))
            (pss_one (ps_raiseI (W := WxE E) TT.at_ S TT.sb TT.ty rfl (takes_of rfl rfl rfl rfl) (hr.mono (by decide)) gT (pe_op op_add (pv 4) pe_int) bf_line (by rfl))) pss_nil)
        (pss_one (ps_expr (pe_bm PySem.F.plainAttrs_list PySem.F.slot_list_append PySem.F.type_list_append mt_append (pv 3) (pa_cons (pv 6) pa_nil)))))))
      (pss_cons (ps_if (pt_cmpR op_lt (pe_callB call_len_seq (by rfl) B.len PySem.boot_len (pa_cons (pv 3) pa_nil)) (pe_fld (pv 0) rfl) (nomark _))
            (pss_one (ps_raiseI (W := WxE E) TT.at_ S TT.sb TT.ty rfl (takes_of rfl rfl rfl rfl) (hr.mono (by decide)) gT (pe_op op_add (pe_callB call_len_seq (by rfl) B.len PySem.boot_len (pa_cons (pv 2) pa_nil)) pe_int) bf_line (by rfl))) pss_nil)
      (pss_one (ps_ret (pe_callTy (show CallR _ _ (rTupS K) from call_tuple_of) (by rfl) B.tup boot_tupT (pa_cons (pv 3) pa_nil))))))), ?_⟩
    rcases h with ⟨hx, hE⟩ | ⟨m, ks, hN, hm, ⟨d, hd, hs, hE⟩ | ⟨t, rfl, ht, hbad, hgood⟩⟩
    · exact ⟨_, rfl, x, rfl, .inr ⟨hx, hE⟩⟩
    · exact ⟨_, rfl, x, rfl, .inl ⟨m, ks, hN, fun H1 e1 => ⟨_, rfl, v, rfl, .inl ⟨d, hd.up e1, hs, hE.go e1⟩⟩⟩⟩
    · refine ⟨_, rfl, x, rfl, .inl ⟨m, ks, hN, fun H1 e1 => ⟨_, rfl, _, rfl, .inr ⟨t, rfl, by omega, fun p H2 e2 hp h2 => ?_⟩⟩⟩⟩
      obtain ⟨hll, hlm⟩ := lines_len (t := t)
      obtain ⟨ls, hls⟩ : ∃ ls, linesT t = ls := ⟨_, rfl⟩
      rw [hls] at hbad hgood h2 hll hlm
      refine ⟨by show 0 ≤ sizeLine; decide, fun l0 hl0 => ?_⟩
      refine ⟨_, _, rfl, ?_⟩
      have e02 := e1.trans e2
      have hN2 := hN.up e02
      have hlsl : ls.length ≤ 40000 := by omega
      refine ⟨_, rfl, p, ls.map V.str, rfl, SqL.of ((Ex.new hl0) _ _ h2), for_it (walk_enum (K := K) (a := p) (xs := ls.map V.str)) (fun i σ' H' => ∃ (v4 v5 v6 : Option V) (zs : List V), σ' = [some x, some (.str t), some (.ref p), some (.ref l0), v4, v5, v6] ∧ Ex H2 H' ∧ H' l0 = some (.lst zs) ∧
          PlS K H' zs ((ls.take i).filterMap placeP) ∧ ∀ j (hj : j < ls.length), j < i → ¬ (m ≤ j ∨ placeP ls[j] = none))
        ⟨none, none, none, [], rfl, Ex.new hl0, upd_same, .nil, fun j _ hj => absurd hj (Nat.not_lt_zero j)⟩ (fun i σ' H' _ q => by
          obtain ⟨_, _, _, _, _, e', _⟩ := q
          exact SqL.of (e' _ _ h2)) (fun i y σ' H' H'' hi q yy => ?_) (fun σ' H' q => ?_)⟩
      · obtain ⟨v4, v5, v6, zs, rfl, e3, h0, hz, hok⟩ := q
        obtain ⟨T1, u, w1, rfl, hT1, rfl, hu, hw⟩ := yy
        cases hu
        rw [List.length_map] at hi
        have hw : (ls.map V.str)[i]? = some w1 := hw
        rw [List.getElem?_map, List.getElem?_eq_getElem hi] at hw
        cases hw
        refine g_pair ?_
        have e5 : Ex H' (upd H' T1 (.tup [.int (i : Int), .str ls[i]])) := Ex.new hT1
        generalize upd H' T1 (.tup [.int (i : Int), .str ls[i]]) = H8 at e5 ⊢
        obtain ⟨ln, hln⟩ : ∃ ln, ls[i] = ln := ⟨_, rfl⟩
        have hlnl := hlm _ (List.getElem_mem hi)
        have stands : badFrom m 0 ls = none ∨ ∃ j, badFrom m 0 ls = some j ∧ 0 + i ≤ j := by
          cases hb : badFrom m 0 ls with
          | none => exact .inl rfl
          | some j =>
            refine .inr ⟨j, rfl, ?_⟩
            obtain ⟨hj, hbj⟩ := bad_some ls 0 hb
            rw [Nat.zero_add]
            exact Nat.le_of_not_lt fun z => hok j (by simpa using hj.2) z (by
              rcases hbj with hbj | hbj
              · exact .inl hbj
              · exact .inr (by simpa using hbj))
        rw [hln] at hlnl ⊢
        show tSeq _ _ _ [some x, some (.str t), some (.ref p), some (.ref l0), some (.int (i : Int)), some (.str ln), v6] H8
        refine ⟨_, rfl, ln, "place", rfl, by omega, fun v' H9 e9 hv' => ?_⟩
        have e59 := (e3.trans e5).trans e9
        have hN9 := hN2.up e59
        dsimp only
        show tSeq (tIfS _ _ _) _ _ [some x, some (.str t), some (.ref p), some (.ref l0), some (.int (i : Int)), some (.str ln), some v'] H9
        have raise : (m ≤ i ∨ placeP ln = none) → ∀ H10, Ex H9 H10 → (tOp (rI0 fun i j => .int (i + j)) (tVar 4) (tC (.int 1))) [some x, some (.str t), some (.ref p), some (.ref l0), some (.int (i : Int)), some (.str ln), some v'] H10 (fun v H1 => ∀ d, H1 d = none → E (.ref CT) (some d) (upd H1 d (.xd [("line", v)]))) := fun hb H10 e10 => by
          have hdue := bad_step (m := m) ls 0 i hi stands (by rw [Nat.zero_add, hln]; exact hb)
          rw [Nat.zero_add] at hdue
          have hd := due_bad hdue
          refine ev_op (ev_var rfl) ev_c rv_I0 H10 (Ex.refl _) _ fun H11 e11 dd hdd => ?_
          have := hbad (by rw [hd]; omega) H11 dd ((e02.trans (e59.trans e10)).trans e11) hdd
          rw [hd] at this
          exact this
        have hmany : ∀ {H10}, Ex H9 H10 → Ev (tFld K (tVar 0) "many") [some x, some (.str t), some (.ref p), some (.ref l0), some (.int (i : Int)), some (.str ln), some v'] H10 (.int (m : Int)) := fun {H10} e10 => ev_manyN T (ev_var rfl) (hN9.up e10)
        have is1 := ev_isN0 (H := H9) (ev_var (i := 6) (σ := [some x, some (.str t), some (.ref p), some (.ref l0), some (.int (i : Int)), some (.str ln), some v']) rfl)
        rw [nb_none hv'] at is1
        cases ho : numsB "place" ln with
        | none =>
          rw [ho] at is1
          have hp : placeP ln = none := by unfold placeP; rw [ho]
          refine q_when (b := true) (et_is (et_or (b := true) (et_B is1) (fun z => by cases z)) rfl) (fun _ H10 e10 => ?_) (fun z => by cases z)
          exact raise (.inr hp) H10 e10
        | some ns =>
          rw [ho] at is1 hv'
          by_cases him : m ≤ i
          · have g1 : EvT (tTest (tOp (rI0 fun i j => .bl (decide (j ≤ i))) (tVar 4) (tFld K (tVar 0) "many"))) [some x, some (.str t), some (.ref p), some (.ref l0), some (.int (i : Int)), some (.str ln), some v'] H9 true := et_is (et_test (ev_op (ev_var rfl) (hmany (Ex.refl _)) rv_I0)) (decide_eq_true (by omega))
            refine q_when (b := true) (et_is (et_or (b := true) (et_B is1) (fun _ => et_or (b := true) g1 (fun z => by cases z))) rfl) (fun _ H10 e10 => ?_) (fun z => by cases z)
            exact raise (.inl him) H10 e10
          · have g1 : EvT (tTest (tOp (rI0 fun i j => .bl (decide (j ≤ i))) (tVar 4) (tFld K (tVar 0) "many"))) [some x, some (.str t), some (.ref p), some (.ref l0), some (.int (i : Int)), some (.str ln), some v'] H9 false := et_is (et_test (ev_op (ev_var rfl) (hmany (Ex.refl _)) rv_I0)) (decide_eq_false (by omega))
            have dv : EvD K (tVar 6) [some x, some (.str t), some (.ref p), some (.ref l0), some (.int (i : Int)), some (.str ln), some v'] H9 (.tuple (ns.map .int)) := ed_var rfl hv'
            have ln2 : ∀ b, (!decide (ns.length = 2)) = b → EvT (tTest (tOp rNe (tCB (rLenS K) (tCons (tVar 6) tNil)) (tC (.int 2)))) [some x, some (.str t), some (.ref p), some (.ref l0), some (.int (i : Int)), some (.str ln), some v'] H9 b := fun b hb => et_is (et_test (ev_op (ev_lenT (K := K) dv) ev_c (rv_ne rfl))) (by
              rw [← hb, List.length_map, V_int2])
            by_cases h2 : ns.length = 2
            · match ns, h2 with
              | [a, b], _ =>
                obtain ⟨q, rfl, hq⟩ := dqs_ints2 hv'
                have ix0 := ev_op (ev_var (i := 6) (σ := [some x, some (.str t), some (.ref p), some (.ref l0), some (.int (i : Int)), some (.str ln), some (.ref q)]) (H := H9) rfl) (ev_c (v := .int 0)) (rv_ixT (K := K) hq (atI_nat (j := 0) rfl))
                have ix1 := ev_op (ev_var (i := 6) (σ := [some x, some (.str t), some (.ref p), some (.ref l0), some (.int (i : Int)), some (.str ln), some (.ref q)]) (H := H9) rfl) (ev_c (v := .int 1)) (rv_ixT (K := K) hq (atI_nat (j := 1) rfl))
                have hmax : Ev (tCB (fun xs H Q => ∃ i j : Int, xs = [.int i, .int j] ∧ Q (.int (if j > i then j else i)) H) (tCons (tCB (fun xs H Q => ∃ i : Int, xs = [.int i] ∧ Q (.int (if i < 0 then -i else i)) H) (tCons (tOp (rIxT K) (tVar 6) (tC (.int 0))) tNil)) (tCons (tCB (fun xs H Q => ∃ i : Int, xs = [.int i] ∧ Q (.int (if i < 0 then -i else i)) H) (tCons (tOp (rIxT K) (tVar 6) (tC (.int 1))) tNil)) tNil))) [some x, some (.str t), some (.ref p), some (.ref l0), some (.int (i : Int)), some (.str ln), some (.ref q)] H9 (.int (if absI b > absI a then absI b else absI a)) :=
                  fun H10 e10 Q2 q2 => ea_cons (ev_abs ix0) (ea_cons (ev_abs ix1) ea_nil) H10 e10 _ fun H11 e11 => ⟨_, _, rfl, q2 H11 e11⟩
                have g3 := ev_op hmax (ev_c (v := .int 1000000)) (rv_I0 (g := fun i j => .bl (decide (j < i))))
                by_cases hbig : (if absI b > absI a then absI b else absI a) > 1000000
                · have hp : placeP ln = none := by
                    unfold placeP
                    rw [ho]
                    dsimp only
                    rw [if_neg]
                    intro z
                    split at hbig <;> omega
                  refine q_when (b := true) (et_is (et_or (b := true) (et_B is1) (fun _ => et_or (b := true) g1 (fun _ => et_or (b := true) (ln2 false rfl) (fun _ => et_is (et_test g3) (decide_eq_true (by omega)))))) rfl) (fun _ H10 e10 => ?_) (fun z => by cases z)
                  exact raise (.inr hp) H10 e10
                · have hp : placeP ln = some (a, b) := by
                    unfold placeP
                    rw [ho]
                    dsimp only
                    rw [if_pos]
                    split at hbig <;> constructor <;> omega
                  refine q_when (b := false) (et_is (et_or (b := false) (et_B is1) (fun _ => et_or (b := false) g1 (fun _ => et_or (b := false) (ln2 false rfl) (fun _ => et_is (et_test g3) (decide_eq_false (by omega)))))) rfl) (fun z => by cases z) (fun _ H10 e10 => ?_)
                  have e510 := e59.trans e10
                  have e010 := ((e5.trans e9).trans e10) _ _ h0
                  refine s_app (xs := zs) e010 (ev_var rfl) (ev_var rfl) (by have := hz.len; have h3 := List.length_filterMap_le placeP (ls.take i); rw [List.length_take] at h3; omega) fun H11 e11 => ?_
                  have h11 := e11 _ _ e010
                  refine ⟨_, _, _, _, rfl, Ex.mut (e510.trans e11) hl0, upd_same, ?_, fun j hj hji => ?_⟩
                  · rw [List.take_succ_eq_append_getElem hi, List.filterMap_append, hln]
                    have e1f : List.filterMap placeP [ln] = [(a, b)] := by rw [List.filterMap_cons, hp]; rfl
                    rw [e1f]
                    refine PlS.app ((hz.up (((e5.trans e9).trans e10).trans e11)).upl h11) (.cons (sqt_upl h11 (ex_t (e10.trans e11) hq)) .nil)
                  · by_cases hj2 : j < i
                    · exact hok j hj hj2
                    · have : j = i := by omega
                      subst this
                      rw [hln]
                      rintro (z | z)
                      · exact him z
                      · rw [hp] at z
                        cases z
            · have hp : placeP ln = none := by
                unfold placeP
                rw [ho]
                match ns, h2 with
                | [], _ => rfl
                | [_], _ => rfl
                | [_, _], h2 => exact absurd rfl h2
                | _ :: _ :: _ :: _, _ => rfl
              refine q_when (b := true) (et_is (et_or (b := true) (et_B is1) (fun _ => et_or (b := true) g1 (fun _ => et_or (b := true) (ln2 true (by rw [decide_eq_false h2]; rfl)) (fun z => by cases z)))) rfl) (fun _ H10 e10 => ?_) (fun z => by cases z)
              exact raise (.inr hp) H10 e10
      · obtain ⟨v4, v5, v6, zs, rfl, e3, h0, hz, hok⟩ := q
        rw [List.length_map] at hz hok
        rw [List.take_length] at hz
        have hb0 : badFrom m 0 ls = none := bad_none ls 0 fun i hi => by rw [Nat.zero_add]; exact hok i hi hi
        have hlm2 : ls.length ≤ m := by
          apply Nat.le_of_not_lt
          intro z
          exact hok m z z (.inl (Nat.le_refl _))
        have hlen : (ls.filterMap placeP).length = ls.length := all_some ls fun l hl => by
          obtain ⟨j, hj, rfl⟩ := List.mem_iff_getElem.mp hl
          exact fun z => hok j hj hj (.inr z)
        have hzl := hz.len
        have hN3 := hN2.up e3
        dsimp only
        show tSeq (tIfS _ _ _) _ _ [some x, some (.str t), some (.ref p), some (.ref l0), v4, v5, v6] H'
        have hp3 := e3 _ _ h2
        have due : dueP m ls = if ls.length = m then -1 else (ls.length : Int) + 1 := by
          unfold dueP
          rw [hb0]
        have lz := ev_len (K := K) (H := H') (ev_var (i := 3) (σ := [some x, some (.str t), some (.ref p), some (.ref l0), v4, v5, v6]) rfl) (SqL.of h0)
        by_cases hm2 : ls.length = m
        · rw [if_pos hm2] at due
          refine q_when (b := false) (et_is (et_test (ev_op lz (ev_manyN T (ev_var rfl) hN3) rv_I0)) (decide_eq_false (by omega))) (fun z => by cases z) (fun _ H4 e4 => ?_)
          refine ⟨_, rfl, l0, zs, rfl, .inl ⟨SqL.of (e4 _ _ h0), fun q hq => ?_⟩⟩
          exact hgood due _ _ ((e02.trans (e3.trans e4)).trans (Ex.new hq)) (.tup (SqT.of upd_same) (((hz.up e4).up (Ex.new hq)).dq))
        · rw [if_neg hm2] at due
          refine q_when (b := true) (et_is (et_test (ev_op lz (ev_manyN T (ev_var rfl) hN3) rv_I0)) (decide_eq_true (by omega))) (fun _ H4 e4 => ?_) (fun z => by cases z)
          have lp := ev_len (K := K) (H := H4) (ev_var (i := 2) (σ := [some x, some (.str t), some (.ref p), some (.ref l0), v4, v5, v6]) rfl) (SqL.of (e4 _ _ hp3))
          refine ev_op lp ev_c rv_I0 H4 (Ex.refl _) _ fun H5 e5 dd hdd => ?_
          have := hbad (by rw [due]; omega) H5 dd ((e02.trans (e3.trans e4)).trans e5) hdd
          rw [due] at this
          rw [List.length_map]
          exact this
end
end My
/-! _law_k90_due -/
namespace My
open PySem PySem.Spec PyProof.Rows L2 Evl Kpt TL
theorem ev_maxL {K : PySem.W.Frag} {σ : L2.St} {H : Hp} {te : TE} {ns : List Int} {z : Int} (h : EvL te σ H (ns.map V.int)) (hne : 0 < ns.length) (hm : ∀ m ∈ ns, (∀ y ∈ ns, y ≤ m) → m = z) : Ev (tCB (rMax K) (tCons te tNil)) σ H (.int z) := fun H1 e Q q =>
  h H1 e _ fun p H2 hp e2 h2 => ⟨p, ns, rfl, SqL.of h2, hne, fun m hm' hy => by
    rw [hm m hm' hy]
    exact q H2 e2⟩
section
variable {P : Program} {w : World} {K : PySem.W.Frag} {mg : Str → Option Value} {base : Heap}
def spDue (K : PySem.W.Frag) : Sp := fun vs H Q _ => ∃ (m : Nat) (p : Addr) (ls : List Str), vs = [.int (m : Int), .ref p] ∧ SqL K H p (ls.map .str) ∧ ls.length ≤ 40000 ∧ (∀ l ∈ ls, l.length ≤ 20000) ∧ RetV (.int (dueP m ls)) H Q
abbrev nDue : List Str := ["many", "lines", "at", "line", "words_here", "found", "word", "one"]
theorem scDue : FnScope nDue ["many", "lines"] (defScope s_law_k90_due) := ⟨rfl, rfl, rfl, by decide +kernel, rfl, by decide +kernel, by decide +kernel⟩
theorem filterMap_two {ws : List Str} {a b : Int} (h : ws.map numW = [some a, some b]) : ws.filterMap numW = [a, b] := by
  have e : ws.filterMap numW = (ws.map numW).filterMap id := by rw [List.filterMap_map]; rfl
  rw [e, h]
  rfl
theorem V_intD {a b : Int} : decide (V.int a = V.int b) = decide (a = b) := by
  rw [Bool.eq_iff_iff, decide_eq_true_eq, decide_eq_true_eq]
  exact ⟨fun z => by injection z, fun z => by rw [z]⟩
theorem two_of {os : List (Option Int)} (h1 : os.length = 2) (h2 : none ∉ os) : ∃ a b, os = [some a, some b] := by
  match os, h1 with
  | [o1, o2], _ =>
    cases o1 with
    | none => simp at h2
    | some a =>
      cases o2 with
      | none => simp at h2
      | some b => exact ⟨a, b, rfl⟩
theorem place_of {ln w0 : Str} {wr : List Str} (hs : Txt.split ln " " = w0 :: wr) :
    placeP ln = if w0 = "place" then (match wr.map numW with
      | [some a, some b] => if absI a ≤ 1000000 ∧ absI b ≤ 1000000 then some (a, b) else none
      | _ => none) else none := by
  unfold placeP numsB
  rw [hs]
  by_cases h0 : w0 = "place"
  · rw [if_pos h0]
    by_cases hn : none ∈ wr.map numW
    · rw [if_neg (fun z => z.2 hn)]
      dsimp only
      split
      · rename_i a b e
        rw [e] at hn
        simp at hn
      · rfl
    · rw [if_pos ⟨by rw [h0]; rfl, hn⟩]
      show (match some (wr.filterMap numW) with
        | some [a, b] => if absI a ≤ 1000000 ∧ absI b ≤ 1000000 then some (a, b) else none
        | _ => none) = _
      cases e : wr.map numW with
      | nil =>
        have : wr = [] := List.map_eq_nil_iff.mp e
        subst this
        rfl
      | cons o r =>
        have hl : (wr.filterMap numW).length = wr.length := all_some wr fun x hx z => hn (List.mem_map.mpr ⟨x, hx, z⟩)
        have hl2 : wr.length = r.length + 1 := by rw [← List.length_map (f := numW), e]; rfl
        match r, e with
        | [], e =>
          have : ∃ a, wr.filterMap numW = [a] := by
            match h : wr.filterMap numW with
            | [a] => exact ⟨a, rfl⟩
            | [] => rw [h] at hl; simp at hl; omega
            | _ :: _ :: _ => rw [h] at hl; simp at hl hl2; omega
          obtain ⟨a, ha⟩ := this
          rw [ha]
          cases o <;> rfl
        | [o2], e =>
          cases o with
          | none => rw [e] at hn; simp at hn
          | some a =>
            cases o2 with
            | none => rw [e] at hn; simp at hn
            | some b =>
              rw [filterMap_two e]
        | o2 :: o3 :: r, e =>
          have : ∃ a b c r, wr.filterMap numW = a :: b :: c :: r := by
            match h : wr.filterMap numW with
            | [] => rw [h] at hl; simp at hl; omega
            | [_] => rw [h] at hl; simp at hl hl2; omega
            | [_, _] => rw [h] at hl; simp at hl hl2; omega
            | a :: b :: c :: r => exact ⟨a, b, c, r, rfl⟩
          obtain ⟨a, b, c, r', hr⟩ := this
          rw [hr]
          cases o <;> cases o2 <;> rfl
  · rw [if_neg h0, if_neg (fun z => h0 (by simpa using z.1))]
theorem ok_due {f fN : Addr} {fd fdN : FuncData} (F : Fun K "_law_k90_due" "_law_k90_due" s_law_k90_due f fd) (B : NmB mg) (gE : mg "enumerate" = none) (gAb : mg "abs" = none) (Nu : CalX P w K mg base CX0 1 "_law_k90_number" ["word"] spNum fN fdN) : FnOk P w K mg base CX0 2 f fd ["many", "lines"] (spDue K) := by
  refine F.ok scDue (fun vs H Q E h => ?_) (fun cdv A outer s H vs Q E hr h => ?_)
  · obtain ⟨m, p, ls, rfl, _⟩ := h
    rfl
  · obtain ⟨m, p, ls, rfl, hp, hll, hlm, k⟩ := h
    refine ⟨_, pss_cons (ps_for PassesOwn.never rfl (pi_enum (by rfl) gE (pa_cons (pv 1) pa_nil)) (pg_tup rfl (pgs_cons (pg_name (i := 2) scDue.nd rfl (Or.inl rfl)) (pgs_cons (pg_name (i := 3) scDue.nd rfl (Or.inl rfl)) pgs_nil)))
        (pss_cons (ps_set (i := 4) scDue.nd rfl (Or.inl rfl) (pe_split (pv 3) pe_str))
        (pss_cons (ps_setLc (i := 5) (own := [("word", 6)]) (g := gName 6) rfl scDue.nd rfl rfl (sw_true rfl rfl rfl (by decide +kernel)) (pi_list (pe_slice (show SlR _ (rSlL K) from sl_list) (pv 4) (po_some pe_int) po_none)) (blkOk_by (N := nDue) (sc := defScope s_law_k90_due) (by decide +kernel))
            (fun _ _ _ _ _ => pg_name (i := 6) scDue.nd rfl (Or.inl rfl)) (fun _ _ _ _ _ => pts_nil) (fun _ _ _ _ _ => pe_call Nu.ok hr (by rfl) Nu.g Nu.kp Nu.b .nil pass0 (pa_cons (pv 6) pa_nil)))
        (pss_one (ps_if (PW.pt (pw_or (pt_cmpR op_ge (pv 2) (pv 0) (nomark _)) (pw_or (pt_cmpR op_ne (pe_ix (show IxR _ (rIxL K) from ix_list) (pv 4) pe_int (fun _ _ => rfl)) pe_str (nomark _)) (pw_or (pt_cmpR op_ne (pe_callB call_len_seq (by rfl) B.len PySem.boot_len (pa_cons (pv 5) pa_nil)) pe_int (nomark _))
            (pw_or (pt_cmpR (show OpR _ (compareOp .In) (rInD K) from op_inD (room65 hr)) pe_non (pv 5) (by rfl))
            (pw_or1 (pt_cmpR op_gt (pe_callB (show CallR _ _ (rMax K) from cr_max rfl) (by rfl) B.max boot_max (pa_cons (pe_lc (own := [("one", 7)]) (g := gName 7) rfl scDue.nd (pi_list (pv 5)) (blkOk_by (N := nDue) (sc := defScope s_law_k90_due) (by decide +kernel))
              (fun _ _ _ _ _ => pg_name (i := 7) scDue.nd rfl (Or.inl rfl)) (fun _ _ _ _ _ => pts_nil) (fun _ _ _ _ _ => pe_callB call_abs (by rfl) gAb (by decide +kernel) (pa_cons (pv 7) pa_nil))) pa_nil)) (pe_op op_pow pe_int pe_int) (nomark _))))))))
            (pss_one (ps_ret (pe_op op_add (pv 2) pe_int))) pss_nil)))))
      (pss_one (ps_ret (pe_ifExp (pt_cmpR op_eq (pe_callB call_len_seq (by rfl) B.len PySem.boot_len (pa_cons (pv 1) pa_nil)) (pv 0) (nomark _)) (pe_un un_neg pe_int) (pe_op op_add (pe_callB call_len_seq (by rfl) B.len PySem.boot_len (pa_cons (pv 1) pa_nil)) pe_int)))), ?_⟩
    refine ⟨_, rfl, p, ls.map V.str, rfl, hp, for_it (walk_enum (K := K) (a := p) (xs := ls.map V.str)) (fun i σ' H' => ∃ (v2 v3 v4 v5 : Option V), σ' = [some (.int (m : Int)), some (.ref p), v2, v3, v4, v5, none, none] ∧ Ex H H' ∧ ∀ j (hj : j < ls.length), j < i → ¬ (m ≤ j ∨ placeP ls[j] = none))
        ⟨none, none, none, none, rfl, Ex.refl _, fun j _ hj => absurd hj (Nat.not_lt_zero j)⟩ (fun i σ' H' _ q => by
          obtain ⟨_, _, _, _, _, e', _⟩ := q
          exact ex_l e' hp) (fun i y σ' H' H'' hi q yy => ?_) (fun σ' H' q => ?_)⟩
    · obtain ⟨v2, v3, v4, v5, rfl, e3, hok⟩ := q
      obtain ⟨T1, u, w1, rfl, hT1, rfl, hu, hw⟩ := yy
      cases hu
      rw [List.length_map] at hi
      have hw : (ls.map V.str)[i]? = some w1 := hw
      rw [List.getElem?_map, List.getElem?_eq_getElem hi] at hw
      cases hw
      refine g_pair ?_
      have e5 : Ex H' (upd H' T1 (.tup [.int (i : Int), .str ls[i]])) := Ex.new hT1
      generalize upd H' T1 (.tup [.int (i : Int), .str ls[i]]) = H8 at e5 ⊢
      obtain ⟨ln, hln⟩ : ∃ ln, ls[i] = ln := ⟨_, rfl⟩
      have hlnl := hlm _ (List.getElem_mem hi)
      have stands : badFrom m 0 ls = none ∨ ∃ j, badFrom m 0 ls = some j ∧ 0 + i ≤ j := by
        cases hb : badFrom m 0 ls with
        | none => exact .inl rfl
        | some j =>
          refine .inr ⟨j, rfl, ?_⟩
          obtain ⟨hj, hbj⟩ := bad_some ls 0 hb
          rw [Nat.zero_add]
          exact Nat.le_of_not_lt fun z => hok j (by simpa using hj.2) z (by
            rcases hbj with hbj | hbj
            · exact .inl hbj
            · exact .inr (by simpa using hbj))
      have hdue : (m ≤ i ∨ placeP ls[i] = none) → dueP m ls = (i : Int) + 1 := fun hb => by
        have hd := bad_step (m := m) ls 0 i hi stands (by rw [Nat.zero_add]; exact hb)
        rw [Nat.zero_add] at hd
        exact due_bad hd
      rw [hln] at hlnl hdue ⊢
      obtain ⟨w0, wr, hws⟩ : ∃ a r, Txt.split ln " " = a :: r := by
        cases h : Txt.split ln " " with
        | nil => exact absurd h (sep_sp.cuts ln)
        | cons a r => exact ⟨a, r, rfl⟩
      have hcount := split_count sep_sp ln
      have hlen : ∀ q ∈ w0 :: wr, q.length ≤ ln.length := fun q hq => split_len sep_sp (hws ▸ hq)
      rw [hws, List.length_cons] at hcount
      show tSeq _ _ _ [some (.int (m : Int)), some (.ref p), some (.int (i : Int)), some (.str ln), v4, v5, none, none] H8
      refine q_asgL (el_is (el_split sep_sp (ev_var rfl) ev_c (by omega)) (by rw [hws])) fun pw H9 hpw e9 h9 => ?_
      have hcut : cutV ((w0 :: wr).map V.str) (some 1) none = wr.map V.str := by
        rw [show (some (1 : Int)) = some ((1 : Nat) : Int) from rfl, cut_from]
        rfl
      refine q_asgL (xs := (wr.map numW).map optV) ?_ fun q H10 hq e10 h10 => ?_
      · refine el_is (el_lcNL (xs := wr.map V.str) (fun _ => true) (fun i => ((wr.map numW).map optV).getD i .non) (el_is (el_sl (K := K) (ev_var rfl) (eo_some ev_c) eo_none (SqL.of h9)) hcut) (by rw [List.length_map]; omega) (fun _ => rfl) (fun _ _ H2 e2 _ => fun H3 e3 Q q => q H3 (Ex.refl _)) (fun i v H2 e2 hv _ => ?_)) ?_
        · rw [List.getElem?_map] at hv
          obtain ⟨wd, hwd, rfl⟩ := Option.map_eq_some_iff.mp hv
          have e : ((wr.map numW).map optV).getD i .non = optV (numW wd) := by
            rw [List.getD_eq_getElem?_getD, List.getElem?_map, List.getElem?_map, hwd]
            rfl
          rw [e]
          exact ev_call (sp := spNum) (dvs := []) (E := L2.E0) (ea_cons (ev_var rfl) ea_nil) fun H3 e3 Q q E => ⟨wd, rfl, by
            have := hlen wd (List.mem_cons_of_mem _ (List.mem_of_getElem? hwd))
            omega, fun H4 e4 => q H4 e4⟩
        · have e := range_getD ((wr.map numW).map optV) .non
          rw [List.length_map, List.length_map] at e
          rw [given_all, List.length_map]
          exact e
      · dsimp only
        show (tIfS _ _ _) _ [some (.int (m : Int)), some (.ref p), some (.int (i : Int)), some (.str ln), some (.ref pw), some (.ref q), none, none] H10
        have e08 : Ex H H10 := ((e3.trans e5).trans e9).trans e10
        have ret : (m ≤ i ∨ placeP ln = none) → ∀ H11, Ex H10 H11 → Q (.int ((i : Int) + 1)) H11 := fun hb H11 e11 => by
          have := k.go (e08.trans e11)
          rw [hdue hb] at this
          exact this
        have h9' := e10 _ _ h9
        have hpl := place_of hws
        have hd : DqAll K H10 ((wr.map numW).map optV) ((wr.map numW).map optD) := dq_opts _
        have hv : Dq K H10 (.ref q) (.list ((wr.map numW).map optD)) := .lst (SqL.of h10) hd
        have g1 : ∀ b, decide (m ≤ i) = b → EvT (tTest (tOp (rI0 fun i j => .bl (decide (j ≤ i))) (tVar 2) (tVar 0))) [some (.int (m : Int)), some (.ref p), some (.int (i : Int)), some (.str ln), some (.ref pw), some (.ref q), none, none] H10 b := fun b hb => et_is (et_test (ev_op (ev_var rfl) (ev_var rfl) rv_I0)) (by rw [← hb, Bool.eq_iff_iff, decide_eq_true_eq, decide_eq_true_eq]; omega)
        have g2 : ∀ b, (!decide (w0 = "place")) = b → EvT (tTest (tOp rNe (tOp (rIxL K) (tVar 4) (tC (.int 0))) (tC (.str "place")))) [some (.int (m : Int)), some (.ref p), some (.int (i : Int)), some (.str ln), some (.ref pw), some (.ref q), none, none] H10 b := fun b hb => et_is (et_test (ev_op (ev_op (ev_var rfl) ev_c (rv_ixL (SqL.of h9') (atI_nat (j := 0) rfl))) ev_c (rv_ne rfl))) (by
          rw [← hb]
          congr 1
          rw [Bool.eq_iff_iff, decide_eq_true_eq, decide_eq_true_eq]
          exact ⟨fun u => by injection u, fun u => congrArg V.str u⟩)
        have g3 : ∀ b, (!decide (wr.length = 2)) = b → EvT (tTest (tOp rNe (tCB (rLenS K) (tCons (tVar 5) tNil)) (tC (.int 2)))) [some (.int (m : Int)), some (.ref p), some (.int (i : Int)), some (.str ln), some (.ref pw), some (.ref q), none, none] H10 b := fun b hb => et_is (et_test (ev_op (ev_len (K := K) (ev_var rfl) (SqL.of h10)) ev_c (rv_ne rfl))) (by rw [← hb, List.length_map, List.length_map, V_int2])
        have cO : ∀ o : Option Int, CmI (optD o) := fun o => by
          cases o with
          | none => exact ⟨by simp [optD, PyData.hasDict], by simp [optD, PyData.canLay0], by simp [optD, PyData.depth]⟩
          | some n => exact cmi_int n
        have hin : ((wr.map numW).map optD).any (fun z => PyData.eqv z .none) = decide (none ∈ wr.map numW) := by
          rw [Bool.eq_iff_iff, List.any_eq_true, decide_eq_true_eq]
          constructor
          · rintro ⟨z, hz, he⟩
            obtain ⟨o, ho, rfl⟩ := List.mem_map.mp hz
            cases o with
            | none => exact ho
            | some n => simp [optD, PyData.eqv] at he
          · intro h
            exact ⟨_, List.mem_map.mpr ⟨none, h, rfl⟩, by simp [optD, PyData.eqv]⟩
        have g4 : ∀ b, decide (none ∈ wr.map numW) = b → EvT (tTest (tOp (rInD K) (tC .non) (tVar 5))) [some (.int (m : Int)), some (.ref p), some (.int (i : Int)), some (.str ln), some (.ref pw), some (.ref q), none, none] H10 b := fun b hb => et_is (et_test (ev_inD (K := K) (ed_non ev_c) (ed_var rfl hv) ⟨by simp [PyData.hasDict], by unfold SeqAt.shaped; simp [PyData.canLay0, PyData.depth]⟩ (cmp_list fun d hd => by
          obtain ⟨o, _, rfl⟩ := List.mem_map.mp hd
          exact cO o))) (by rw [← hb, hin])
        by_cases c1 : m ≤ i
        · refine s_when (b := true) (et_is (et_or (b := true) (g1 true (decide_eq_true c1)) (fun z => by cases z)) rfl) (fun _ H11 e11 => ?_) (fun z => by cases z)
          exact s_ret (v := .int ((i : Int) + 1)) (ev_op (ev_var rfl) ev_c rv_I0) fun H12 e12 => ret (.inl c1) H12 (e11.trans e12)
        by_cases c2 : w0 = "place"
        · rw [if_pos c2] at hpl
          by_cases c3 : wr.length = 2
          · by_cases c4 : none ∈ wr.map numW
            · have hn : placeP ln = none := by
                rw [hpl]
                split
                · rename_i a b e
                  rw [e] at c4
                  simp at c4
                · rfl
              refine s_when (b := true) (et_is (et_or (b := true) (g1 false (decide_eq_false c1)) (fun _ => et_or (b := true) (g2 false (by rw [decide_eq_true c2]; rfl)) (fun _ => et_or (b := true) (g3 false (by rw [decide_eq_true c3]; rfl)) (fun _ => et_or (b := true) (g4 true (decide_eq_true c4)) (fun z => by cases z))))) rfl) (fun _ H11 e11 => ?_) (fun z => by cases z)
              exact s_ret (v := .int ((i : Int) + 1)) (ev_op (ev_var rfl) ev_c rv_I0) fun H12 e12 => ret (.inr hn) H12 (e11.trans e12)
            · obtain ⟨a, b, hab⟩ := two_of (os := wr.map numW) (by rw [List.length_map]; exact c3) c4
              rw [hab] at hpl h10
              have hl : EvL (tLc (iList K (tVar 5)) (gName 7) tYes (tCB (fun xs H Q => ∃ i : Int, xs = [.int i] ∧ Q (.int (if i < 0 then -i else i)) H) (tCons (tVar 7) tNil)) [7]) [some (.int (m : Int)), some (.ref p), some (.int (i : Int)), some (.str ln), some (.ref pw), some (.ref q), none, none] H10 ([absI a, absI b].map V.int) :=
                el_is (el_lcL (K := K) (xs := [some a, some b].map optV) (fun _ => true) (fun i => ([absI a, absI b].map V.int).getD i .non) (ev_var (i := 5) rfl) (SqL.of h10) (by show 2 ≤ 40000; decide) (fun _ => rfl) (fun _ _ H2 e2 _ => fun H3 e3 Q q => q H3 (Ex.refl _)) (fun i v H2 e2 hv _ => by
                  match i, hv with
                  | 0, hv =>
                    cases hv
                    exact ev_abs (ev_var rfl)
                  | 1, hv =>
                    cases hv
                    exact ev_abs (ev_var rfl))) (range_getD ([absI a, absI b].map V.int) .non)
              have hmx : Ev (tCB (rMax K) (tCons (tLc (iList K (tVar 5)) (gName 7) tYes (tCB (fun xs H Q => ∃ i : Int, xs = [.int i] ∧ Q (.int (if i < 0 then -i else i)) H) (tCons (tVar 7) tNil)) [7]) tNil)) [some (.int (m : Int)), some (.ref p), some (.int (i : Int)), some (.str ln), some (.ref pw), some (.ref q), none, none] H10 (.int (if absI b > absI a then absI b else absI a)) := ev_maxL hl (by show 0 < 2; decide) fun mx hm hmy => by
                have h1 := hmy (absI a) (by simp)
                have h2 := hmy (absI b) (by simp)
                have h3 : mx = absI a ∨ mx = absI b := by simpa using hm
                split <;> omega
              have g5 : ∀ z, decide ((if absI b > absI a then absI b else absI a) > 1000000) = z → EvT (tTest (tOp (rI0 fun i j => .bl (decide (j < i))) (tCB (rMax K) (tCons (tLc (iList K (tVar 5)) (gName 7) tYes (tCB (fun xs H Q => ∃ i : Int, xs = [.int i] ∧ Q (.int (if i < 0 then -i else i)) H) (tCons (tVar 7) tNil)) [7]) tNil)) (tOp (rI CPow fun i j => .int (i ^ j.toNat)) (tC (.int 10)) (tC (.int 6))))) [some (.int (m : Int)), some (.ref p), some (.int (i : Int)), some (.str ln), some (.ref pw), some (.ref q), none, none] H10 z := fun z hz =>
                et_is (et_test (ev_op hmx (ev_op ev_c ev_c (rv_I ⟨by decide, by decide, by decide⟩)) rv_I0)) hz
              by_cases c5 : (if absI b > absI a then absI b else absI a) > 1000000
              · have hn : placeP ln = none := by
                  rw [hpl]
                  dsimp only
                  rw [if_neg]
                  intro z
                  split at c5 <;> omega
                refine s_when (b := true) (et_is (et_or (b := true) (g1 false (decide_eq_false c1)) (fun _ => et_or (b := true) (g2 false (by rw [decide_eq_true c2]; rfl)) (fun _ => et_or (b := true) (g3 false (by rw [decide_eq_true c3]; rfl)) (fun _ => et_or (b := true) (g4 false (decide_eq_false c4)) (fun _ => g5 true (decide_eq_true c5)))))) rfl) (fun _ H11 e11 => ?_) (fun z => by cases z)
                exact s_ret (v := .int ((i : Int) + 1)) (ev_op (ev_var rfl) ev_c rv_I0) fun H12 e12 => ret (.inr hn) H12 (e11.trans e12)
              · have hs : placeP ln ≠ none := by
                  rw [hpl]
                  dsimp only
                  rw [if_pos]
                  · simp
                  · split at c5 <;> constructor <;> omega
                refine s_when (b := false) (et_is (et_or (b := false) (g1 false (decide_eq_false c1)) (fun _ => et_or (b := false) (g2 false (by rw [decide_eq_true c2]; rfl)) (fun _ => et_or (b := false) (g3 false (by rw [decide_eq_true c3]; rfl)) (fun _ => et_or (b := false) (g4 false (decide_eq_false c4)) (fun _ => g5 false (decide_eq_false c5)))))) rfl) (fun z => by cases z) (fun _ H11 e11 => ?_)
                refine ⟨_, _, _, _, rfl, e08.trans e11, fun j hj hji => ?_⟩
                by_cases hj2 : j < i
                · exact hok j hj hj2
                · have : j = i := by omega
                  subst this
                  rw [hln]
                  rintro (z | z)
                  · exact c1 z
                  · exact hs z
          · have hn : placeP ln = none := by
              rw [hpl]
              split
              · rename_i a b e
                have := congrArg List.length e
                rw [List.length_map] at this
                exact absurd this c3
              · rfl
            refine s_when (b := true) (et_is (et_or (b := true) (g1 false (decide_eq_false c1)) (fun _ => et_or (b := true) (g2 false (by rw [decide_eq_true c2]; rfl)) (fun _ => et_or (b := true) (g3 true (by rw [decide_eq_false c3]; rfl)) (fun z => by cases z)))) rfl) (fun _ H11 e11 => ?_) (fun z => by cases z)
            exact s_ret (v := .int ((i : Int) + 1)) (ev_op (ev_var rfl) ev_c rv_I0) fun H12 e12 => ret (.inr hn) H12 (e11.trans e12)
        · rw [if_neg c2] at hpl
          refine s_when (b := true) (et_is (et_or (b := true) (g1 false (decide_eq_false c1)) (fun _ => et_or (b := true) (g2 true (by rw [decide_eq_false c2]; rfl)) (fun z => by cases z))) rfl) (fun _ H11 e11 => ?_) (fun z => by cases z)
          exact s_ret (v := .int ((i : Int) + 1)) (ev_op (ev_var rfl) ev_c rv_I0) fun H12 e12 => ret (.inr hpl) H12 (e11.trans e12)
    · obtain ⟨v2, v3, v4, v5, rfl, e3, hok⟩ := q
      rw [List.length_map] at hok
      have hb0 : badFrom m 0 ls = none := bad_none ls 0 fun i hi => by rw [Nat.zero_add]; exact hok i hi hi
      have due : dueP m ls = if ls.length = m then -1 else (ls.length : Int) + 1 := by
        unfold dueP
        rw [hb0]
      dsimp only
      show tRet _ _ [some (.int (m : Int)), some (.ref p), v2, v3, v4, v5, none, none] H'
      have lp := fun H5 (e5 : Ex H' H5) => ev_len (K := K) (H := H5) (ev_var (i := 1) (σ := [some (.int (m : Int)), some (.ref p), v2, v3, v4, v5, none, none]) rfl) (ex_l (e3.trans e5) hp)
      refine s_ret (v := .int (dueP m ls)) (ev_if (b := decide (ls.length = m)) (et_is (et_test (ev_op (lp _ (Ex.refl _)) (ev_var rfl) (rv_eq rfl))) ?_) (fun z => ?_) (fun z => ?_)) fun H5 e5 => k.go (e3.trans e5)
      · rw [List.length_map, V_intD, Bool.eq_iff_iff, decide_eq_true_eq, decide_eq_true_eq]
        omega
      · rw [due, if_pos (of_decide_eq_true z)]
        exact ev_un ev_c ru_neg
      · rw [due, if_neg (of_decide_eq_false z)]
        refine ev_is (ev_op (lp _ (Ex.refl _)) ev_c rv_I0) ?_
        rw [List.length_map]
end
end My
/-! texts of places (plain): there and back -/
namespace My
open PySem PySem.Spec PyProof.Rows L2 Evl Kpt TL
theorem join3 (a b c : Str) : Txt.join " " [a, b, c] = a ++ " " ++ b ++ " " ++ c := by
  refine ext_tl ?_
  rw [join_eq, tl_join]
  simp only [tl_append, List.map_cons, List.map_nil]
  show tl a ++ (tl " " ++ (tl b ++ (tl " " ++ tl c))) = _
  simp only [List.append_assoc]
theorem lineP_join (p : Int × Int) : lineP p = Txt.join " " ["place", numT p.1, numT p.2] := by
  rw [join3]
  unfold lineP
  refine ext_tl ?_
  have : tl ("place " : Str) = tl ("place" : Str) ++ tl (" " : Str) := by decide +kernel
  simp only [tl_append, this, List.append_assoc]
theorem num_free {n : Int} {s : Nat} (h : s < 45) : s ∉ tl (numT n) := by
  by_cases hn : 0 ≤ n
  · obtain ⟨m, rfl⟩ := Int.eq_ofNat_of_zero_le hn
    rw [tl_numN]
    exact numL_free (.inl (by omega))
  · obtain ⟨m, rfl⟩ : ∃ m : Nat, n = -((m + 1 : Nat) : Int) := ⟨(-n).toNat - 1, by omega⟩
    rw [tl_numM, List.mem_cons, not_or]
    exact ⟨by omega, numL_free (.inl (by omega))⟩
theorem split_line (p : Int × Int) : Txt.split (lineP p) " " = [("place" : Str), numT p.1, numT p.2] := by
  rw [lineP_join]
  refine sep_sp.join (by simp) fun q hq => ?_
  have : q = "place" ∨ q = numT p.1 ∨ q = numT p.2 := by simpa using hq
  rcases this with rfl | rfl | rfl
  · show 32 ∉ tl ("place" : Str)
    decide +kernel
  · exact num_free (by decide)
  · exact num_free (by decide)
theorem near_num {p : Int × Int} (h : Near p) : numW (numT p.1) = some p.1 ∧ numW (numT p.2) = some p.2 := by
  obtain ⟨h1, h2, h3, h4⟩ := h
  exact ⟨numW_num (by omega), numW_num (by omega)⟩
theorem absI_le {i : Int} : absI i ≤ 1000000 ↔ -1000000 ≤ i ∧ i ≤ 1000000 := by
  unfold absI
  split <;> omega
theorem placeP_line {p : Int × Int} (h : Near p) : placeP (lineP p) = some p := by
  obtain ⟨h1, h2⟩ := near_num h
  rw [place_of (split_line p), if_pos rfl]
  have e : [numT p.1, numT p.2].map numW = [some p.1, some p.2] := by rw [List.map_cons, List.map_cons, h1, h2]; rfl
  rw [e]
  obtain ⟨a1, a2, a3, a4⟩ := h
  show (if _ then _ else _) = _
  rw [if_pos ⟨absI_le.mpr ⟨a1, a2⟩, absI_le.mpr ⟨a3, a4⟩⟩]
/-- a line that tells a place is its line -/
theorem line_back {l : Str} {p : Int × Int} (h : placeP l = some p) : lineP p = l ∧ Near p := by
  obtain ⟨w0, wr, hws⟩ : ∃ a r, Txt.split l " " = a :: r := by
    cases h : Txt.split l " " with
    | nil => exact absurd h (sep_sp.cuts l)
    | cons a r => exact ⟨a, r, rfl⟩
  rw [place_of hws] at h
  split at h
  · rename_i h0
    split at h
    · rename_i a b e
      split at h
      · rename_i hn
        have hp := Option.some.inj h
        subst hp
        have hl : wr.length = 2 := by rw [← List.length_map (f := numW), e]; rfl
        match wr, hl, e with
        | [w1, w2], _, e =>
          rw [List.map_cons, List.map_cons] at e
          injection e with e1 e
          injection e with e2 _
          refine ⟨?_, absI_le.mp hn.1 |>.1, absI_le.mp hn.1 |>.2, absI_le.mp hn.2 |>.1, absI_le.mp hn.2 |>.2⟩
          rw [lineP_join, (numW_some e1).1, (numW_some e2).1, ← h0, ← hws]
          exact sep_sp.back l
      · cases h
    · cases h
  · cases h
/-- lines as the law has them -/
def FreeL (ss : List Str) : Prop := ∀ s ∈ ss, 10 ∉ tl s
theorem lines_join {ss : List Str} (hf : FreeL ss) : linesT (Txt.join "\n" ss) = if Txt.join "\n" ss = "" then [] else ss := by
  unfold linesT
  split
  · rfl
  · rename_i h
    have hne : ss ≠ [] := fun z => h (by rw [z]; exact ext_tl (by rw [join_eq, tl_join]; decide +kernel))
    exact sep_nl.join hne hf
theorem line_free (p : Int × Int) : 10 ∉ tl (lineP p) := by
  unfold lineP
  rw [tl_append, tl_append, tl_append, List.mem_append, List.mem_append, List.mem_append]
  rintro (((h | h) | h) | h)
  · revert h; decide +kernel
  · exact num_free (by decide) h
  · revert h; decide +kernel
  · exact num_free (by decide) h
theorem line_ne (p : Int × Int) : tl (lineP p) ≠ [] := by
  unfold lineP
  rw [tl_append, tl_append, tl_append]
  have : tl ("place " : Str) ≠ [] := by decide +kernel
  intro z
  exact this (List.append_eq_nil_iff.mp (List.append_eq_nil_iff.mp (List.append_eq_nil_iff.mp z).1).1).1
theorem text_ne {ps : List (Int × Int)} (h : ps ≠ []) : textP ps ≠ "" := by
  intro z
  have e : tl (textP ps) = [] := by rw [z]; decide +kernel
  unfold textP at e
  rw [join_eq, tl_join] at e
  cases ps with
  | nil => exact h rfl
  | cons p r =>
    cases r with
    | nil => exact line_ne p e
    | cons q r =>
      rw [List.map_cons, List.map_cons, List.map_cons, List.map_cons] at e
      rw [joinL_cons (by simp)] at e
      exact line_ne p (List.append_eq_nil_iff.mp e).1
theorem lines_text {ps : List (Int × Int)} (h : ps ≠ []) : linesT (textP ps) = ps.map lineP := by
  have hf : FreeL (ps.map lineP) := fun s hs => by
    obtain ⟨p, _, rfl⟩ := List.mem_map.mp hs
    exact line_free p
  have := lines_join hf
  rw [if_neg (show ¬ Txt.join "\n" (ps.map lineP) = "" from text_ne h)] at this
  exact this
theorem places_back {ps : List (Int × Int)} (h : ∀ p ∈ ps, Near p) : (ps.map lineP).filterMap placeP = ps := by
  induction ps with
  | nil => rfl
  | cons p r ih =>
    rw [List.map_cons, List.filterMap_cons, placeP_line (h p List.mem_cons_self)]
    exact congrArg _ (ih fun q hq => h q (List.mem_cons_of_mem _ hq))
theorem due_text {m : Nat} {ps : List (Int × Int)} (hl : ps.length = m) (h : ∀ p ∈ ps, Near p) : dueP m (ps.map lineP) = -1 := by
  unfold dueP
  rw [bad_none _ 0 fun i hi => ?_]
  · dsimp only
    rw [if_pos (by rw [List.length_map]; exact hl)]
  · rw [List.length_map] at hi
    rw [Nat.zero_add, List.getElem_map, placeP_line (h _ (List.getElem_mem hi))]
    rintro (z | z)
    · omega
    · cases z
/-- where no line stands in the way -/
theorem due_good {m : Nat} {ls : List Str} (h : dueP m ls = -1) : ls.length = m ∧ ∀ l ∈ ls, ∃ p, placeP l = some p := by
  unfold dueP at h
  cases hb : badFrom m 0 ls with
  | some i =>
    rw [hb] at h
    dsimp only at h
    omega
  | none =>
    rw [hb] at h
    dsimp only at h
    split at h
    · rename_i hl
      refine ⟨hl, fun l hm => ?_⟩
      obtain ⟨i, hi, rfl⟩ := List.mem_iff_getElem.mp hm
      cases hp : placeP ls[i] with
      | some p => exact ⟨p, rfl⟩
      | none =>
        have := bad_step (m := m) ls 0 i hi (.inl hb) (.inr hp)
        rw [hb] at this
        cases this
    · omega
theorem text_back : ∀ {ls : List Str}, (∀ l ∈ ls, ∃ p, placeP l = some p) → (ls.filterMap placeP).map lineP = ls ∧ ∀ p ∈ ls.filterMap placeP, Near p
  | [], _ => ⟨rfl, fun p h => by cases h⟩
  | l :: r, h => by
    obtain ⟨p, hp⟩ := h l List.mem_cons_self
    obtain ⟨h1, h2⟩ := line_back hp
    obtain ⟨i1, i2⟩ := text_back (ls := r) fun x hx => h x (List.mem_cons_of_mem _ hx)
    rw [List.filterMap_cons, hp]
    dsimp only
    refine ⟨by rw [List.map_cons, h1, i1], fun q hq => ?_⟩
    rcases List.mem_cons.mp hq with rfl | hq
    · exact h2
    · exact i2 q hq
/-- bounds of a list of lines -/
structure GoodL (ss : List Str) : Prop where
  free : FreeL ss
  len : ss.length ≤ 30
  sz : ∀ s ∈ ss, s.length ≤ 200
theorem GoodL.pop {ss : List Str} (h : GoodL ss) (k : Nat) : GoodL (ss.eraseIdx k) :=
  ⟨fun s hs => h.free s (List.mem_of_mem_eraseIdx hs), Nat.le_trans (List.length_eraseIdx_le ..) h.len, fun s hs => h.sz s (List.mem_of_mem_eraseIdx hs)⟩
theorem mem_ins {α : Type} {ss : List α} {k : Nat} {s t : α} (h : t ∈ ss.take k ++ [s] ++ ss.drop k) : t = s ∨ t ∈ ss := by
  rcases List.mem_append.mp h with h | h
  · rcases List.mem_append.mp h with h | h
    · exact .inr (List.mem_of_mem_take h)
    · exact .inl (List.mem_singleton.mp h)
  · exact .inr (List.mem_of_mem_drop h)
theorem GoodL.ins {ss : List Str} (h : GoodL ss) {s : Str} (hs : 10 ∉ tl s) (hz : s.length ≤ 200) (k : Nat) (hl : ss.length ≤ 24) : GoodL (ss.take k ++ [s] ++ ss.drop k) :=
  ⟨fun t ht => by
    rcases mem_ins ht with rfl | ht
    · exact hs
    · exact h.free t ht, by
    rw [List.length_append, List.length_append, List.length_take, List.length_drop, List.length_singleton]
    omega, fun t ht => by
    rcases mem_ins ht with rfl | ht
    · exact hz
    · exact h.sz t ht⟩
theorem GoodL.set {ss : List Str} (h : GoodL ss) {s : Str} (hs : 10 ∉ tl s) (hz : s.length ≤ 200) (k : Nat) : GoodL (ss.set k s) :=
  ⟨fun t ht => by
    rcases List.mem_or_eq_of_mem_set ht with ht | rfl
    · exact h.free t ht
    · exact hs, by rw [List.length_set]; exact h.len, fun t ht => by
    rcases List.mem_or_eq_of_mem_set ht with ht | rfl
    · exact h.sz t ht
    · exact hz⟩
theorem goodL_lines {ps : List (Int × Int)} (hl : ps.length ≤ 24) (h : ∀ p ∈ ps, Near p) : GoodL (ps.map lineP) :=
  ⟨fun s hs => by
    obtain ⟨p, _, rfl⟩ := List.mem_map.mp hs
    exact line_free p, by rw [List.length_map]; omega, fun s hs => by
    obtain ⟨p, hp, rfl⟩ := List.mem_map.mp hs
    have := lineP_len (h p hp)
    omega⟩
/-- words joined again -/
theorem join_words {ws : List Str} (h : FreeL ws) (hl : (ws.map Str.length).sum + ws.length ≤ 200) : 10 ∉ tl (Txt.join " " ws) ∧ (Txt.join " " ws).length ≤ 200 := by
  constructor
  · rw [join_eq, tl_join, show tl (" " : Str) = [32] by decide +kernel]
    intro z
    rcases mem_joinL z with z | ⟨p, hp, z⟩
    · simp at z
    · obtain ⟨w, hw, rfl⟩ := List.mem_map.mp hp
      exact h w hw z
  · rw [len_tl, join_eq, tl_join, show tl (" " : Str) = [32] by decide +kernel]
    have := joinL_length 32 (ws.map tl)
    rw [List.map_map, List.length_map] at this
    have e : ws.map Str.length = ws.map (List.length ∘ tl) := List.map_congr_left fun z _ => len_tl z
    rw [e] at hl
    omega
theorem goodL_sum {ss : List Str} (h : GoodL ss) : (ss.map (·.length)).sum ≤ 6000 := by
  have : ∀ l : List Str, (∀ s ∈ l, s.length ≤ 200) → (l.map (·.length)).sum ≤ 200 * l.length := fun l => by
    induction l with
    | nil => exact fun _ => Nat.le_refl _
    | cons a r ih =>
      intro hh
      have h1 := ih fun s hs => hh s (List.mem_cons_of_mem _ hs)
      have h2 := hh a List.mem_cons_self
      simp only [List.map_cons, List.sum_cons, List.length_cons] at h1 ⊢
      omega
  have h1 := this ss h.sz
  have h2 := h.len
  omega
theorem join_len {ss : List Str} (h : GoodL ss) : (Txt.join "\n" ss).length ≤ 7000 := by
  rw [len_tl, join_eq, tl_join, show tl ("\n" : Str) = [10] by decide +kernel]
  have := joinL_length 10 (ss.map tl)
  rw [List.map_map, List.length_map] at this
  have e : ss.map (·.length) = ss.map (List.length ∘ tl) := List.map_congr_left fun z _ => len_tl z
  have hs := goodL_sum h
  rw [e] at hs
  have := h.len
  omega
end My
/-! data that repr shows: small ints, truth, lists and tuples of such -/
namespace My
open PySem PySem.Spec PyProof.Rows L2 Evl
structure RD (k w : Nat) (d : PyData) : Prop where
  sh : d.showable = true
  nd : d.hasDict = false
  dp : d.depth ≤ k
  ls : d.leavesShort 10 = true
  wt : d.weight ≤ w
structure RDs (k w : Nat) (ds : List PyData) : Prop where
  sh : PyData.showableAll ds = true
  nd : PyData.hasDictAll ds = false
  dp : PyData.depthAll ds ≤ k
  ls : PyData.leavesShortAll 10 ds = true
  wt : PyData.weightAll ds ≤ w
theorem RD.int {i : Int} (h : SmI i) : RD 0 12 (.int i) := ⟨smI_show h, by rw [PyData.hasDict], by simp [PyData.depth], smI_short h, smI_w h⟩
theorem RD.bool (b : Bool) : RD 0 12 (.bool b) := ⟨by rw [PyData.showable], by rw [PyData.hasDict], by simp [PyData.depth], by rw [PyData.leavesShort], by simp [PyData.weight]⟩
theorem RDs.nil {k w : Nat} : RDs k w [] := ⟨by rw [PyData.showableAll], by rw [PyData.hasDictAll], by simp [PyData.depthAll], by rw [PyData.leavesShortAll], by rw [wt_nil]; exact Nat.zero_le _⟩
theorem RDs.cons {k w1 w2 w : Nat} {d : PyData} {ds : List PyData} (h : RD k w1 d) (r : RDs k w2 ds) (hw : w1 + 1 + w2 ≤ w) : RDs k w (d :: ds) := by
  refine ⟨by rw [PyData.showableAll, h.sh, r.sh]; rfl, by rw [PyData.hasDictAll, h.nd, r.nd]; rfl, ?_, by rw [PyData.leavesShortAll, h.ls, r.ls]; rfl, ?_⟩
  · have := h.dp
    have := r.dp
    simp only [PyData.depthAll]
    omega
  · have := h.wt
    have := r.wt
    rw [wt_cons]
    omega
theorem RD.mono {k1 k2 w1 w2 : Nat} {d : PyData} (h : RD k1 w1 d) (hk : k1 ≤ k2) (hw : w1 ≤ w2) : RD k2 w2 d := ⟨h.sh, h.nd, Nat.le_trans h.dp hk, h.ls, Nat.le_trans h.wt hw⟩
theorem RD.tuple {k w : Nat} {ds : List PyData} (h : RDs k w ds) : RD (k + 1) w (.tuple ds) := by
  refine ⟨by rw [PyData.showable]; exact h.sh, by rw [PyData.hasDict]; exact h.nd, ?_, by rw [PyData.leavesShort]; exact h.ls, by rw [PyData.weight]; exact h.wt⟩
  show PyData.depthAll ds + 1 ≤ k + 1
  have := h.dp
  omega
theorem RD.list {k w : Nat} {ds : List PyData} (h : RDs k w ds) : RD (k + 1) w (.list ds) := by
  refine ⟨by rw [PyData.showable]; exact h.sh, by rw [PyData.hasDict]; exact h.nd, ?_, by rw [PyData.leavesShort]; exact h.ls, by rw [PyData.weight]; exact h.wt⟩
  show PyData.depthAll ds + 1 ≤ k + 1
  have := h.dp
  omega
theorem RDs.ints {k : Nat} : ∀ {ns : List Int}, (∀ n ∈ ns, SmI n) → RDs k (13 * ns.length) (ns.map .int)
  | [], _ => .nil
  | n :: r, h => .cons ((RD.int (h n List.mem_cons_self)).mono (Nat.zero_le _) (Nat.le_refl _)) (RDs.ints fun z hz => h z (List.mem_cons_of_mem _ hz)) (by rw [List.length_cons]; omega)
theorem RDs.all {k w : Nat} : ∀ {ds : List PyData}, (∀ d ∈ ds, RD k w d) → RDs k ((w + 1) * ds.length) ds
  | [], _ => .nil
  | d :: r, h => .cons (h d List.mem_cons_self) (RDs.all fun z hz => h z (List.mem_cons_of_mem _ hz)) (by rw [List.length_cons, Nat.mul_add]; omega)
theorem RD.rpr {k w : Nat} {d : PyData} (h : RD k w d) (hk : k ≤ 32) (hw : w ≤ 1048576) : Rpr d := ⟨h.nd, h.sh, Nat.le_trans h.dp hk, PyData.shown_fits (B := 10) (by decide) (by decide) h.ls (Nat.le_trans h.wt (Nat.le_trans hw (by decide)))⟩
end My
/-! more words with draws -/
namespace My
open PySem PySem.Spec PyProof.Rows L2 Evl Kpt LamX
/-- a def that draws, of data -/
def spX (K : PySem.W.Frag) (n : Nat) (L : DA → List PyData → Prop) (R : List PyData → PyData → Prop) : Sp := fun vs H Q _ => ∃ (D : DA) (t : Nat) (xs : List V) (ds : List PyData), vs = .ref D.d :: xs ∧ ST D H t ∧ t + n ≤ lim ∧ DqAll K (Vw D H) xs ds ∧ L D ds ∧
  ∀ v H2 dd, ST D H2 (t + n) → Kx D.d D.g H H2 → Dq K (Vw D H2) v dd → R ds dd → Q v H2
section
variable {K : PySem.W.Frag} {D : DA} {σ : L2.St} {H H' : Hp} {te ta tb : TE} {tl : TA} {tt tu : TT} {d e : PyData} {ds es : List PyData} {n m t : Nat} {P P' P'' : PyData → Prop} {L L' : List PyData → Prop} {Z Z' : Bool → Prop}
theorem ex_call {M : DA → List PyData → Prop} {R : List PyData → PyData → Prop} {E : XK} {i : Nat} (hi : σ[i]? = some (some (.ref D.d))) (ha : EaX K D tl σ H n L) (hM : ∀ ds, L ds → M D ds) : EvX K D (tCall (spX K m M R) [] E (tCons (tVar i) tl)) σ H (n + m) (fun dd => ∃ ds, L ds ∧ R ds dd) := fun H1 t k st l Q q =>
  ⟨_, hi, ha H1 t k st (by omega) _ fun vs H2 ds k2 s2 hv pl => ⟨D, t + n, vs, ds, by rw [List.append_nil], s2, by omega, hv, hM ds pl, fun v H3 dd s3 k3 hw r => q v H3 dd (k2.trans k3) (by rw [← Nat.add_assoc]; exact s3) hw ⟨ds, pl, r⟩⟩⟩
theorem s_retX {En : Ends} (h : EvX K D te σ H n P) (st : ST D H t) (l : t + n ≤ lim) (k : ∀ v H2 dd, Kx D.d D.g H H2 → ST D H2 (t + n) → Dq K (Vw D H2) v dd → P dd → En.rt v H2) : tRet te En σ H := h H t Kx.refl st l _ k
theorem q_asgX {tz : TS} {En : Ends} {i : Nat} (h : EvX K D te σ H n P) (st : ST D H t) (l : t + n ≤ lim) (k : ∀ v H2 dd, Kx D.d D.g H H2 → ST D H2 (t + n) → Dq K (Vw D H2) v dd → P dd → tz En (σ.set i (some v)) H2) : tSeq (tAsg te (gName i)) tz En σ H := h H t Kx.refl st l _ k
theorem q_asgNX {tz : TS} {En : Ends} {i : Nat} (h : EnX K D te σ H n L) (st : ST D H t) (l : t + n ≤ lim) (k : ∀ p xs H2 ds, Kx D.d D.g H H2 → ST D H2 (t + n) → Nw H p → H2 p = some (.lst xs) → DqAll K (Vw D H2) xs ds → L ds → tz En (σ.set i (some (.ref p))) H2) : tSeq (tAsg te (gName i)) tz En σ H := h H t Kx.refl st l _ k
theorem s_asgX {En : Ends} {i : Nat} (h : EvX K D te σ H n P) (st : ST D H t) (l : t + n ≤ lim) (k : ∀ v H2 dd, Kx D.d D.g H H2 → ST D H2 (t + n) → Dq K (Vw D H2) v dd → P dd → En.nx (σ.set i (some v)) H2) : tAsg te (gName i) En σ H := h H t Kx.refl st l _ k
theorem q_parX {tz : TS} {En : Ends} {i j : Nat} (h : EvX K D ta σ H n P) (h' : EvX K D tb σ H m P') (st : ST D H t) (l : t + (n + m) ≤ lim) (k : ∀ v w H2 d e, Kx D.d D.g H H2 → ST D H2 (t + (n + m)) → Dq K (Vw D H2) v d → Dq K (Vw D H2) w e → P d → P' e → tz En ((σ.set i (some v)).set j (some w)) H2) : tSeq (tPar i j (tCons ta (tCons tb tNil))) tz En σ H :=
  h H t Kx.refl st (by omega) _ fun v H1 d k1 s1 hv p => h' H1 (t + n) k1 s1 (by omega) _ fun w H2 e k2 s2 hw p' => ⟨_, _, rfl, k v w H2 d e (k1.trans k2) (by rw [← Nat.add_assoc]; exact s2) (hv.kx k2) hw p p'⟩
theorem q_whenX {tz tu : TS} {En : Ends} (h : EtX D tt σ H n Z) (st : ST D H t) (l : t + n ≤ lim) (h1 : ∀ H1, Kx D.d D.g H H1 → ST D H1 (t + n) → Z true → tu { En with nx := tz En } σ H1) (h2 : ∀ H1, Kx D.d D.g H H1 → ST D H1 (t + n) → Z false → tz En σ H1) : tSeq (tIfS tt tu tNext) tz En σ H :=
  h H t Kx.refl st l _ fun b H1 k1 s1 z => by
    cases b with
    | true => exact iteT (h1 H1 k1 s1 z)
    | false => exact iteF (h2 H1 k1 s1 z)
theorem s_whenX {tu : TS} {En : Ends} (h : EtX D tt σ H n Z) (st : ST D H t) (l : t + n ≤ lim) (h1 : ∀ H1, Kx D.d D.g H H1 → ST D H1 (t + n) → Z true → tu En σ H1) (h2 : ∀ H1, Kx D.d D.g H H1 → ST D H1 (t + n) → Z false → En.nx σ H1) : tIfS tt tu tNext En σ H :=
  h H t Kx.refl st l _ fun b H1 k1 s1 z => by
    cases b with
    | true => exact iteT (h1 H1 k1 s1 z)
    | false => exact iteF (h2 H1 k1 s1 z)
/-! ### tests -/
theorem EvX.to (h : EvX K D te σ H n P) (k : Kx D.d D.g H H') : EvX K D te σ H' n P := h.kx k
theorem etx_or {z : Bool} (h1 : EtX D tt σ H n (· = z)) (h2 : z = false → EtX D tu σ H m Z) : EtX D (tOr tt tu) σ H (n + m) (fun b => (z = true ∧ b = true) ∨ (z = false ∧ Z b)) := fun H1 t k st l R q =>
  h1 H1 t k st (by omega) _ fun b H2 k2 s2 hb => by
    subst hb
    cases b with
    | true => exact iteT (q true H2 k2 (s2.mono (by omega)) (.inl ⟨rfl, rfl⟩))
    | false => exact iteF (h2 rfl H2 (t + n) (k.trans k2) s2 (by omega) _ fun b H3 k3 s3 hb => q b H3 (k2.trans k3) (by rw [← Nat.add_assoc]; exact s3) (.inr ⟨rfl, hb⟩))
theorem etx_and {z : Bool} (h1 : EtX D tt σ H n (· = z)) (h2 : z = true → EtX D tu σ H m Z) : EtX D (tAnd tt tu) σ H (n + m) (fun b => (z = false ∧ b = false) ∨ (z = true ∧ Z b)) := fun H1 t k st l R q =>
  h1 H1 t k st (by omega) _ fun b H2 k2 s2 hb => by
    subst hb
    cases b with
    | false => exact iteF (q false H2 k2 (s2.mono (by omega)) (.inl ⟨rfl, rfl⟩))
    | true => exact iteT (h2 rfl H2 (t + n) (k.trans k2) s2 (by omega) _ fun b H3 k3 s3 hb => q b H3 (k2.trans k3) (by rw [← Nat.add_assoc]; exact s3) (.inr ⟨rfl, hb⟩))
/-- a drawn number against a known one -/
theorem etx_cmp {r : R2} {z lo hi : Int} {c : Int → Int → Bool} (h : EvX K D ta σ H n (PInt lo hi)) (hz : ∀ B, EvD K tb σ B (.int z)) (hr : ∀ i j B, RV r (.int i) (.int j) B (.bl (c i j))) : EtX D (tTest (tOp r ta tb)) σ H n (fun b => ∃ j, lo ≤ j ∧ j < hi ∧ b = c j z) := fun H1 t k st l R q =>
  h H1 t k st l _ fun v H2 dd k2 s2 hv p => by
    obtain ⟨j, rfl, j1, j2⟩ := p
    rw [hv.int_eq]
    exact ev_dI (hz H2) H2 (Ex.refl _) _ fun H3 e3 => hr j z H3 H3 (Ex.refl _) _ fun H4 e4 => ⟨_, rfl, q _ H4 ((k2.trans (Kx.ex e3)).trans (Kx.ex e4)) ((s2.up e3).up e4) ⟨j, j1, j2, rfl⟩⟩
/-! ### values -/
theorem ed_emp {B : Hp} : EvD K tDNewK σ B (.dict []) := fun B1 H1 e s Q q => fun p hp => q _ _ _ (.new s hp fun ps z => by cases z) (.emp upd_same)
theorem ex_cat (ha : EvX K D ta σ H n (fun dd => ∃ ds, dd = .tuple ds ∧ L ds)) (hb : EvX K D tb σ H m (fun dd => ∃ ds, dd = .tuple ds ∧ L' ds)) (hl : ∀ ds es, L ds → L' es → ds.length + es.length ≤ 100000) : EvX K D (tOp (rCatA K) ta tb) σ H (n + m) (fun dd => ∃ fs, dd = .tuple fs ∧ ∃ ds es, fs = ds ++ es ∧ L ds ∧ L' es) :=
  ex_op ha hb fun x y a b B hx hy ⟨ds, e1, pl⟩ ⟨es, e2, pl'⟩ => by
    subst e1 e2
    exact ⟨.tuple (ds ++ es), ed_catT (ed_ev ev_c hx) (ed_ev ev_c hy) (hl ds es pl pl'), _, rfl, ds, es, rfl, pl, pl'⟩
theorem ex_tupD (h : EvD K te σ (Vw D H) (.tuple ds)) : EvX K D te σ H 0 (fun dd => ∃ es, dd = .tuple es ∧ es = ds) := (ex_D h).mono (Nat.le_refl _) fun _ e => ⟨ds, e, rfl⟩
/-- a sum, a difference of ints -/
theorem ex_rI0 {lo hi lo2 hi2 lo3 hi3 : Int} {g : Int → Int → Int} (ha : EvX K D ta σ H n (PInt lo hi)) (hb : EvX K D tb σ H m (PInt lo2 hi2)) (hg : ∀ i j, lo ≤ i → i < hi → lo2 ≤ j → j < hi2 → lo3 ≤ g i j ∧ g i j < hi3) : EvX K D (tOp (rI0 fun i j => .int (g i j)) ta tb) σ H (n + m) (PInt lo3 hi3) :=
  ex_op ha hb fun x y a b B hx hy ⟨i, e1, i1, i2⟩ ⟨j, e2, j1, j2⟩ => by
    subst e1 e2
    rw [hx.int_eq, hy.int_eq]
    have := hg i j i1 i2 j1 j2
    exact ⟨.int (g i j), ed_int (ev_op ev_c ev_c rv_I0), g i j, rfl, this.1, this.2⟩
/-- a row of data at a drawn place -/
theorem ex_ixL (ha : EvX K D ta σ H n (fun dd => ∃ ds, dd = .list ds ∧ L ds)) (hb : EvX K D tb σ H m (PInt 0 N)) (hl : ∀ ds, L ds → N ≤ (ds.length : Int)) : EvX K D (tOp (rIxL K) ta tb) σ H (n + m) (fun dd => ∃ ds, L ds ∧ dd ∈ ds) :=
  ex_op ha hb fun x y a b B hx hy ⟨ds, e1, pl⟩ ⟨j, e2, j1, j2⟩ => by
    subst e1 e2
    rw [hy.int_eq]
    have hN := hl ds pl
    have hj : j.toNat < ds.length := by omega
    have e : j = ((j.toNat : Nat) : Int) := by omega
    refine ⟨ds[j.toNat], ed_ixL (ed_ev ev_c hx) ev_c ?_, ds, pl, List.getElem_mem _⟩
    have q := atI_nat (List.getElem?_eq_getElem hj)
    rw [← e] at q
    exact q
theorem ex_if {ta' : TE} (h : EtX D tt σ H n Z) (h1 : Z true → EvX K D ta σ H m P) (h2 : Z false → EvX K D ta' σ H m P) : EvX K D (tIf tt ta ta') σ H (n + m) P := fun H1 t k st l Q q =>
  h H1 t k st (by omega) _ fun b H2 k2 s2 z => by
    cases b with
    | true => exact iteT (h1 z H2 (t + n) (k.trans k2) s2 (by omega) _ fun v H3 dd k3 s3 hv p => q v H3 dd (k2.trans k3) (by rw [← Nat.add_assoc]; exact s3) hv p)
    | false => exact iteF (h2 z H2 (t + n) (k.trans k2) s2 (by omega) _ fun v H3 dd k3 s3 hv p => q v H3 dd (k2.trans k3) (by rw [← Nat.add_assoc]; exact s3) hv p)
/-- tuple(..) of a new list -/
theorem ex_tupN (h : EnX K D te σ H n L) : EvX K D (tCB (rTupS K) (tCons te tNil)) σ H n (fun dd => ∃ ds, dd = .tuple ds ∧ L ds) := fun H1 t k st l Q q =>
  h H1 t k st l _ fun p xs H2 ds k2 s2 hp h2 hx pl => ⟨p, xs, rfl, .inl ⟨SqL.of h2, fun a ha => by
    have f := s2.fresh (nw_none ha)
    have e : Ex H2 (upd H2 a (.tup xs)) := Ex.new ha
    exact q (.ref a) _ (.tuple ds) (k2.trans (Kx.ex e)) (s2.up e) (.tup (SqT.of (vw_get f.1 f.2.1 f.2.2.2 upd_same tup_nt)) (hx.kx (Kx.ex e))) ⟨ds, rfl, pl⟩⟩⟩
/-- more is hidden -/
def DA.hide (D : DA) (S' : List Addr) : DA := { D with S := S' }
theorem vw_less {S S' : List Addr} (h : ∀ a ∈ S, a ∈ S') : Ex (Vw (D.hide S') H) (Vw (D.hide S) H) := fun a o e => by
  obtain ⟨h1, h2, h3, h4, h5⟩ := vw_of e
  exact vw_get h1 h2 (fun z => h3 (h a z)) h4 h5
/-- a row of values, each with draws, over data -/
theorem enx_lcW {wi : TI} {g : TG} {vs : List Nat} {n0 : Nat} (R : Nat → PyData → Prop) (hn : ds.length ≤ 40000)
    (hw : ∀ B1 H1, Ex (Vw D H) B1 → Ex B1 H1 → ∀ R : It → Hp → Prop, (∀ J B2 H2, Gr B1 H1 B2 H2 → Walk J ds.length (fun H' => Ex B2 H') (fun i H x H' => H' = H ∧ ∃ d, ds[i]? = some d ∧ Dq K B2 x d) → R J H2) → wi σ H1 R)
    (hs : ∀ (S' : List Addr) i x H' d, ds[i]? = some d → Ex (Vw D H) (Vw (D.hide S') H') → Kx D.d D.g H H' → Dq K (Vw (D.hide S') H') x d → ∃ σ2, (∀ R : L2.St → Hp → Prop, R σ2 H' → g x (wipe σ vs) H' R) ∧ wipe σ2 vs = wipe σ vs ∧ EvX K (D.hide S') te σ2 H' n0 (R i)) :
    EnX K D (tLc wi g tYes te vs) σ H (ds.length * n0) (fun es => es.length = ds.length ∧ ∀ j e, es[j]? = some e → R j e) := fun H1 t k st l Q q =>
  hw (Vw D H1) H1 (vw_kx k) vw_ex _ fun J B2 H2 g2 w Dl hD => by
    obtain ⟨x1, k2, s2⟩ := gr_vw st g2
    have f := s2.fresh (nw_none hD)
    let S' := Dl :: D.S
    have xS : ∀ {H'}, Kx D.d D.g H2 H' → Ex B2 (Vw (D.hide S') H') := fun {H'} k a o e => by
      obtain ⟨h1, h2, h3, h4, h5⟩ := vw_of (x1 a o e)
      refine vw_get h1 h2 (fun z => ?_) (k a o h1 h2 h5 h4) h5
      rcases List.mem_cons.mp z with z | z
      · rw [z, hD] at h4; cases h4
      · exact h3 z
    have vS : ∀ {H'}, Kx D.d D.g H2 H' → Ex (Vw D H) (Vw (D.hide S') H') := fun {H'} k3 a o e => by
      obtain ⟨h1, h2, h3, h4, h5⟩ := vw_of (vw_kx (k.trans k2) a o e)
      refine vw_get h1 h2 (fun z => ?_) (k3 a o h1 h2 h5 h4) h5
      rcases List.mem_cons.mp z with z | z
      · rw [z, hD] at h4; cases h4
      · exact h3 z
    refine lc_it w (fun i H' => Kx D.d D.g H2 H' ∧ ∃ xs es, ST (D.hide S') H' (t + i * n0) ∧ H' Dl = some (.lst xs) ∧ DqAll K (Vw (D.hide S') H') xs es ∧ es.length = i ∧ ∀ j e, es[j]? = some e → R j e)
      ⟨Kx.ex (Ex.new hD), [], [], ⟨by rw [Nat.zero_mul]; exact (s2.up (Ex.new hD)).1, (s2.up (Ex.new hD)).2.1, fun a ha => ?_⟩, upd_same, .nil, rfl, fun j e h => by cases h⟩ (fun i H' _ p => (xS p.1).trans vw_ex) (fun i x H3 H4 hi p y => ?_) (fun H' p => ?_)
    · rcases List.mem_cons.mp ha with rfl | ha
      · exact ⟨f.2.1, f.2.2.1, [], upd_same⟩
      · exact (s2.up (Ex.new hD)).2.2 a ha
    · obtain ⟨k3, xs, es, s3, p3, p4, p5, p6⟩ := p
      obtain ⟨rfl, d, hd, hx⟩ := y
      obtain ⟨σ2, hg, hwp, he⟩ := hs S' i x H4 d hd (vS k3) ((k.trans k2).trans k3) (hx.up (xS k3))
      have hb : (i + 1) * n0 ≤ ds.length * n0 := Nat.mul_le_mul_right _ hi
      have e1 : (i + 1) * n0 = i * n0 + n0 := Nat.succ_mul i n0
      refine hg _ ⟨hwp, ?_⟩
      unfold tYes
      refine iteT ?_
      refine he H4 (t + i * n0) Kx.refl s3 (by omega) _ fun v H5 dd k5 s5 hv r => ?_
      have fg : Dl ≠ D.d := f.1
      have p3' := k5 Dl _ f.1 f.2.1 lst_nt p3
      refine ⟨xs, p3', sz_lt (by rw [p4.len, p5]; omega), (k3.trans k5).own (nw_none hD), xs ++ [v], es ++ [dd], ?_, upd_same, ?_, by rw [List.length_append, p5]; rfl, fun j e hj => ?_⟩
      · have := s5.own (ys := xs ++ [v]) p3' f.2.1 f.2.2.1
        exact this.mono (by omega)
      · rw [vw_own (D := D.hide S') (l := Dl) List.mem_cons_self]
        exact (p4.kx k5).app (.cons hv .nil)
      · by_cases z : j < es.length
        · rw [List.getElem?_append_left z] at hj
          exact p6 j e hj
        · rw [List.getElem?_append_right (by omega)] at hj
          cases q : j - es.length with
          | zero =>
            rw [q] at hj
            cases hj
            have : j = i := by omega
            rw [this]
            exact r
          | succ u => rw [q] at hj; cases hj
    · obtain ⟨k3, xs, es, s3, p3, p4, p5, p6⟩ := p
      have sD : ST D H' (t + ds.length * n0) := ⟨s3.1, s3.2.1, fun a ha => s3.2.2 a (List.mem_cons_of_mem _ ha)⟩
      exact q Dl xs H' es (k2.trans k3) sD (nw_back s2 k2 (nw_none hD)) p3 (p4.up (vw_less (D := D) (S := D.S) (S' := S') fun a h => List.mem_cons_of_mem _ h)) ⟨p5, p6⟩
end
section
variable {K : PySem.W.Frag}
theorem ed_pow18 {σ : L2.St} {B : Hp} : EvD K (tOp (rI CPow fun i j => .int (i ^ j.toNat)) (tC (.int 10)) (tC (.int 18))) σ B (.int (10 ^ 18)) := ed_int (ev_op ev_c ev_c (rv_I ⟨by decide, by decide, by decide⟩))
theorem ed_neg1 {σ : L2.St} {B : Hp} {z : Int} : EvD K (tUn (rU fun i => .int (-i)) (tC (.int z))) σ B (.int (-z)) := ed_int (ev_un ev_c ru_neg)
end
end My
/-! lambdas as values: kept in a slot, a list; handed to a def by a name -/
namespace LamW
open PySem PySem.Spec PyProof.Rows L2 LamX
/-- a lambda's words, the cells that it captured, its code object -/
structure LO where
  qual : Str
  params : Arguments
  body : Expr
  scope : Scope
  cl : List (Str × Addr)
  c : Addr
/-- the object at f is that lambda -/
def LamO (f : Addr) (L : LO) : HO := .ext fun h => ∃ pm ctv : Value, h.get? f = some (PySem.W.kla_obj "<lambda>" L.qual L.params L.body L.scope L.cl pm L.c ctv)
theorem lamO_ne {f : Addr} {L : LO} (ps : Array Value) : LamO f L ≠ .tbl ps := fun z => by
  unfold LamO at z
  cases z
section
variable {X : Cx} {pins : List (Addr × Obj)} {σ : L2.St} {H : Hp} {s : Shared}
theorem inv_lam {L : LO} {o : Obj} {t' : Nat} {pm ctv : Value} (I : Inv X pins σ H s) (ho : o = PySem.W.kla_obj "<lambda>" L.qual L.params L.body L.scope L.cl pm L.c ctv) :
    Inv X pins σ (upd H s.heap.objs.size (LamO s.heap.objs.size L)) { s with heap := s.heap.push o, toks := t' } := by
  subst ho
  refine I.laid (a := s.heap.objs.size) (fun b u e => Heap.get?_push_of_some _ e) (Nat.le_refl _) ?_
  have e : (s.heap.push (PySem.W.kla_obj "<lambda>" L.qual L.params L.body L.scope L.cl pm L.c ctv)).get? s.heap.objs.size = some (PySem.W.kla_obj "<lambda>" L.qual L.params L.body L.scope L.cl pm L.c ctv) := Heap.get?_push_size _ rfl
  exact ⟨⟨pm, ctv, e⟩, ⟨_, e⟩, fun h1 h2 ⟨p, t, z⟩ st => ⟨p, t, st _ z⟩⟩
/-- the lambda is made and known from now on -/
theorem lam_made {T : List (Addr × Str)} {c P : Addr} {params : Arguments} {body : Expr} {scope : Scope} {pos : Pos} {E : Value → Shared → Prop} {Q : Value → Shared → Prop} (I : Inv X pins σ H s) (TB : TabB X.base X.mg c P) (hcode : X.env.code = .ref c) (hm : (P, X.env.qual ++ "<lambda>") ∈ T)
    (hu : ∀ p ∈ T, p.1 = P → p.2 = X.env.qual ++ "<lambda>") (hT : Tabs T H) (hdef : defaultsOf params X.env = ([], [])) (hfree : ∀ y ∈ scope.names, y.2 = .free → ∃ c, X.env.cells.lookup y.1 = some c)
    (h : ∀ (f c' : Addr) (H1 : Hp) (s' : Shared), Inv X pins σ H1 s' → ExtN H H1 → Tabs T H1 → H f = none → H1 f = some (LamO f ⟨X.env.qual ++ "<lambda>", params, body, scope, cloFrom X.env.cells scope.names [], c'⟩) → H1 c' = some (CodeO c' (X.env.qual ++ "<lambda>")) → Q (.ref f) s') :
    wpAny (model X.prog X.w) X.A (eval (.Lambda params body scope pos) X.env) Q E s := by
  obtain ⟨tb, hP, triples, known⟩ := hT _ hm
  refine PySem.W.kla_eval hdef ?_
  have bP : s.heap.BuiltinsAt X.mg P := TB.bm.keeps I.bk
  have hP2 : s.heap.get? P = some { cls := .none, data := .fields tb } := I.hok P _ hP
  cases hc : codeAmong pos tb.toList with
  | some cv =>
    obtain ⟨c1, rfl, hco⟩ := known pos cv hc
    refine PySem.W.kla_makeFunctionHit (mg := X.mg) (c := c) (P := P) (ps := tb) (closure_ok hfree) I.ok.glob (I.mod.glob.keeps I.bk) hcode (TB.code.keeps I.bk) hP2 triples hc bP fun ctv h1 tk hx hsz => ?_
    have J : Inv X pins σ H { s with heap := h1, toks := tk } := I.kept hx
    have nF : H h1.objs.size = none := J.hok.fresh (Nat.le_refl _)
    have J2 := inv_lam (L := ⟨X.env.qual ++ "<lambda>", params, body, scope, cloFrom X.env.cells scope.names [], c1⟩) (t' := tk) (pm := (X.mg "__name__").getD .none) (ctv := ctv) J rfl
    exact h h1.objs.size c1 _ _ J2 (fun b o e n => (upd_ne (ne_of_none e nF)).trans e) (hT.ext fun b o e => (upd_ne (ne_of_none e nF)).trans e) nF upd_same ((upd_ne (ne_of_none hco nF)).trans hco)
  | none =>
    refine PySem.W.kla_makeFunction (mg := X.mg) (c := c) (P := P) (ps := tb) (closure_ok hfree) I.ok.glob (I.mod.glob.keeps I.bk) hcode (TB.code.keeps I.bk) hP2 triples hc TB.gP bP fun c1 ctv h1 tk hx hge hlt hrec htb => ?_
    obtain ⟨c2, oc, vs, t, e2, hoc, hd, hv⟩ := hrec
    cases e2
    have nC : H c1 = none := I.hok.fresh hge
    have J := inv_table (t' := tk) (more := #[rawInt pos.line, rawInt pos.col, .ref c1]) (h' := h1) I hP (fun b o hb e => hx b o hb e) htb hge ⟨oc, vs, t, hoc, hd, hv⟩
    have stay : ExtN H (upd (upd H P (.tbl (tb ++ #[rawInt pos.line, rawInt pos.col, .ref c1]))) c1 (CodeO c1 (X.env.qual ++ "<lambda>"))) := fun b o e n => by
      rw [upd_ne (ne_of_none e nC), upd_ne (fun z => n tb (Option.some.inj (e.symm.trans (by rw [z]; exact hP))))]
      exact e
    have eL : (tb ++ #[rawInt pos.line, rawInt pos.col, .ref c1]).toList = tb.toList ++ [rawInt pos.line, rawInt pos.col, .ref c1] := by simp
    have tabs1 : Tabs T (upd (upd H P (.tbl (tb ++ #[rawInt pos.line, rawInt pos.col, .ref c1]))) c1 (CodeO c1 (X.env.qual ++ "<lambda>"))) := fun p hp => by
      by_cases hb : p.1 = P
      · rw [hu p hp hb, hb]
        refine ⟨_, by rw [upd_ne (ne_of_none hP nC), upd_same], by rw [eL]; exact PySem.TriplesOk_snoc _ _ _ _ triples, fun p2 cv hcv => ?_⟩
        rw [eL] at hcv
        rcases among_app _ triples hcv with z | z
        · obtain ⟨c0, e1, e3⟩ := known p2 cv z
          exact ⟨c0, e1, stay _ _ e3 codeO_ne⟩
        · exact ⟨c1, z, upd_same⟩
      · obtain ⟨tb2, a1, a2, a3⟩ := hT p hp
        refine ⟨tb2, by rw [upd_ne (ne_of_none a1 nC), upd_ne hb]; exact a1, a2, fun p2 cv hcv => ?_⟩
        obtain ⟨c0, e1, e3⟩ := a3 p2 cv hcv
        exact ⟨c0, e1, stay _ _ e3 codeO_ne⟩
    have nF := J.hok.fresh (Nat.le_refl _)
    have J2 := inv_lam (L := ⟨X.env.qual ++ "<lambda>", params, body, scope, cloFrom X.env.cells scope.names [], c1⟩) (t' := tk) (pm := (X.mg "__name__").getD .none) (ctv := ctv) J rfl
    refine h h1.objs.size c1 _ _ J2 (fun b o e n => (upd_ne (ne_of_none (stay b o e n) nF)).trans (stay b o e n)) (tabs1.ext fun b o e => (upd_ne (ne_of_none e nF)).trans e) (I.hok.fresh (Nat.le_trans hge (Nat.le_of_lt hlt))) upd_same ?_
    exact (upd_ne (Nat.ne_of_lt hlt)).trans upd_same
end
/-- a lambda's words in the frame of X -/
def loOf (X : Cx) (params : Arguments) (body : Expr) (scope : Scope) (c : Addr) : LO := ⟨X.env.qual ++ "<lambda>", params, body, scope, cloFrom X.env.cells scope.names [], c⟩
/-- the reading of a lambda as a value: a new object -/
def tLamV (T : List (Addr × Str)) (q : Str) (mk : Addr → LO) : TE := fun _ H Q => Tabs T H ∧ ∀ (f c' : Addr) (H1 : Hp), ExtN H H1 → Tabs T H1 → H f = none → H1 f = some (LamO f (mk c')) → H1 c' = some (CodeO c' q) → Q (.ref f) H1
theorem pe_lamV {X : Cx} {T : List (Addr × Str)} {c P : Addr} {params : Arguments} {body : Expr} {scope : Scope} {lpos : Pos} (TB : TabB X.base X.mg c P) (hcode : X.env.code = .ref c) (hmT : (P, X.env.qual ++ "<lambda>") ∈ T) (hu : ∀ p ∈ T, p.1 = P → p.2 = X.env.qual ++ "<lambda>") (L : LamS X.env.scope scope)
    (hdef : defaultsOf params X.env = ([], [])) : PE X (.Lambda params body scope lpos) (tLamV T (X.env.qual ++ "<lambda>") (loOf X params body scope)) :=
  ⟨fun pins s σ H Q I h => lam_made I TB hcode hmT hu h.1 hdef (L.has I.ok) fun f c' H1 s' I1 e T1 n hf hc => ⟨.ref f, H1, I1, rfl, h.2 f c' H1 e T1 n hf hc⟩⟩
/-- x(), x the parameter of a def that got such a lambda by a name -/
theorem pe_actV {X : Cx} {pins : List (Addr × Obj)} {σ : L2.St} {H : Hp} {s : Shared} {CXg : CXT} {Eg : XK} {Ng : List Str} {qg : Str} {sg : Scope} {g f c' : Addr} {cdg : Value} {params : Arguments} {body : Expr} {scope : Scope} {k i : Nat} {a : Str} {pn : List (Addr × Obj)} {xe : Value → Shared → Prop} {W : WX} {E : XK} {tb : TE} {p1 p2 : Pos}
    (I : Inv X pins σ H s) (L : LamS X.env.scope scope) (hbind : ∀ pm ctv : Value, bindArgs (PySem.W.kla_fn "<lambda>" (X.env.qual ++ "<lambda>") params body scope (cloFrom X.env.cells scope.names []) pm (.ref c') ctv) ⟨[], []⟩ = pure [])
    (tk : Takes ((cxOf CXg X.prog X.w X.K X.mg X.base Ng qg sg g cdg X.A X.stack s H Eg).tr pn xe) W) (hW : ∀ cls d σ' H', E cls d H' → W cls d σ' H') (hr : Room (k + 1) (X.A.deeper (envOfC qg sg s.heap.objs.size g cdg)))
    (hbody : ∀ (A : Around) (outer : List Env) (s : Shared) (H : Hp), Room k (A.deeper (lamEnv X scope s.heap.objs.size f c')) → PE (lamCx X A outer s H E scope f c') body tb)
    (hN : Ng[i]? = some a) (hv : Vis sg a) (hd : (a == ("__debug__" : Str)) = false := by decide) (hcd : (a == ("__classdict__" : Str)) = false := by decide) :
    PE ((cxOf CXg X.prog X.w X.K X.mg X.base Ng qg sg g cdg X.A X.stack s H Eg).tr pn xe) (.Call (.Name a p1) [] [] p2)
      (fun σZ HZ Q => σZ[i]? = some (some (.ref f)) ∧ HZ c' = some (CodeO c' (X.env.qual ++ "<lambda>")) ∧ HZ f = some (LamO f (loOf X params body scope c')) ∧ tb σ HZ Q) := by
  refine ⟨fun pinsZ sZ σZ HZ Q IZ h => ?_⟩
  obtain ⟨hs, hc, hlam, ht⟩ := h
  refine wpAny_Call_Name_kw (thn ((pe_var (pos := p1) (i := i) hN hv hd hcd).run pinsZ sZ σZ HZ (fun v H1 => v = .ref f ∧ H1 = HZ) IZ ⟨.ref f, hs, rfl, rfl⟩) fun u s1 ⟨v, H1, I1, r1, q1⟩ => ?_)
  obtain ⟨rfl, eH⟩ := q1
  rw [eH] at I1
  obtain rfl : u = Value.ref f := r1
  obtain ⟨⟨pm, ctv, of1⟩, _, _⟩ := I1.hok f _ hlam
  refine PySem.W.callWith_F0 ⟨_, _, _, _, of1⟩ ?_
  have un : Un (frs X.stack) [] H HZ s.heap s1.heap := I1.base
  obtain ⟨⟨oc, vs, t, hoc, hdc, hvc⟩, _, _⟩ := I1.hok c' _ hc
  have rc : codeAny (model X.prog X.w) (X.A.deeper (envOfC qg sg s.heap.objs.size g cdg)) (.call (.ref f) ⟨[], []⟩) (CR (L2.CX X.prog X.w) (envOfC qg sg s.heap.objs.size g cdg :: X.stack) X.prog X.w HZ s1 Q E) s1 := by
    refine PySem.W.kla_callFunE hr.depth of1 rfl L.co L.gen rfl ⟨c', oc, vs, t, rfl, hoc, hdc, hvc⟩ ?_
    show wpAny _ _ (bindArgs (PySem.W.kla_fn "<lambda>" (X.env.qual ++ "<lambda>") params body scope (cloFrom X.env.cells scope.names []) pm (.ref c') ctv) ⟨[], []⟩) _ _ _
    rw [hbind]
    refine wpAny_pure (wpAny_newFunctionEnv (fun y hy => (L.own y hy).2) (fun y hy => absurd hy (by simp)) (fun h₁ hns hsb => ⟨I1.nolimit.fresh _ hsb, ?_⟩) L.kind)
    show codeAny _ _ (.expr body (lamEnv X scope s1.heap.objs.size f c')) _ _
    have keeps : ∀ b o, s1.heap.get? b = some o → h₁.get? b = some o := fun b o e => hsb.extBut b o (Nat.ne_of_lt (Heap.lt_size e)) (Heap.get?_push_of_some _ e)
    have J : Inv (lamCx X (X.A.deeper (envOfC qg sg s.heap.objs.size g cdg)) (envOfC qg sg s.heap.objs.size g cdg :: X.stack) s1 HZ E scope f c') [] σ HZ { s1 with heap := h₁, toks := s1.toks + ([] : List (Str × Value)).length } := lam_start2 I L I1.env0 hr.hd un hns keeps
    refine PySem.W.kla_codeExpr (wpAny_mono ((hbody _ _ s1 HZ (hr.deeper _)).run [] _ _ HZ Q J ht) (fun v s' hq => ?_) fun e s' hq => hq)
    obtain ⟨w', H', J', rv, q⟩ := hq
    exact ⟨w', H', J'.os, J'.bare, J'.base, J'.hok, rv, q⟩
  have hx : Passes (L2.CX X.prog X.w) ((cxOf CXg X.prog X.w X.K X.mg X.base Ng qg sg g cdg X.A X.stack s H Eg).tr pn xe) E := passes_call tk hW
  refine wpAny_call (codeAny_mono rc fun r s' hq => ?_)
  cases r with
  | error e => exact hx pinsZ σZ HZ s1 e s' I1 hq
  | ok fl =>
    cases fl with
    | ret u => exact I1.after hq
    | next => exact False.elim hq
    | brk => exact False.elim hq
    | cont => exact False.elim hq
/-- one of several lambdas of the frame X: its words, what its body does -/
structure Fam (X : Cx) (k : Nat) where
  params : Arguments
  body : Expr
  scope : Scope
  t : XK → TE
  ls : LamS X.env.scope scope
  bind : ∀ (q : Str) (cl : List (Str × Addr)) (pm cv ctv : Value), bindArgs (PySem.W.kla_fn "<lambda>" q params body scope cl pm cv ctv) ⟨[], []⟩ = pure []
  pe : ∀ (A : Around) (outer : List Env) (s : Shared) (H : Hp) (E : XK) (f c' : Addr), Room k (A.deeper (lamEnv X scope s.heap.objs.size f c')) → PE (lamCx X A outer s H E scope f c') body (t E)
def Fam.lo {X : Cx} {k : Nat} (F : Fam X k) (c : Addr) : LO := loOf X F.params F.body F.scope c
/-- the slot i holds one of fam, handed to a def: TT what that def makes of the reading -/
def tLamN {X : Cx} {k : Nat} (fam : List (Fam X k)) (q : Str) (i : Nat) (TT : (XK → Hp → VK → Prop) → Hp → VK → Prop) : TE := fun σ H Q => ∃ F ∈ fam, ∃ f c' : Addr, σ[i]? = some (some (.ref f)) ∧ H c' = some (CodeO c' q) ∧ TT (fun E H' Q' => H' f = some (LamO f (F.lo c')) ∧ F.t E σ H' Q') H Q
theorem pe_lamN {X : Cx} {k i : Nat} {fam : List (Fam X k)} {TT : (XK → Hp → VK → Prop) → Hp → VK → Prop} {x a y : Str} {g : Addr} {pg : Arguments} {bg : List Stmt} {sg : Scope} {dV kV doc pm cdv ct oc : Value} {an od : Option Addr} {osl : Array (Option Value)} {Ng : List Str} {p yp pos : Pos}
    (hg : Gl X x) (hm : X.mg x = some (.ref g)) (hk : PySem.W.keepIn X.K (.ref g) = true) (lk : X.K.lookup g = some ⟨oc, od, .func (PySem.W.fnOf x x pg bg sg dV kV doc pm an cdv ct), osl⟩) (hcg : PySem.W.codeIn X.K cdv x = true) (hb : L2.Binds X.K (PySem.W.fnOf x x pg bg sg dV kV doc pm an cdv ct) [a] [])
    (Sg : FnScope Ng [a] sg) (hNg : Ng[0]? = some a) (hva : Vis sg a) (hG : GivesTo X Ng x sg g cdv bg a (X.env.qual ++ "<lambda>") TT) (hr : Room (k + 2) X.A) (hN : X.N[i]? = some y) (hv : Vis X.env.scope y) (hdb : (x == ("__debug__" : Str)) = false := by decide) (hd : (a == ("__debug__" : Str)) = false := by decide)
    (hcd : (a == ("__classdict__" : Str)) = false := by decide) (hdy : (y == ("__debug__" : Str)) = false := by decide) (hcy : (y == ("__classdict__" : Str)) = false := by decide) : PE X (.Call (.Name x p) [.Name y yp] [] pos) (tLamN fam (X.env.qual ++ "<lambda>") i TT) := by
  refine ⟨fun pins s σ H Q I h => ?_⟩
  obtain ⟨F, _, f, c', hs, hco, ht⟩ := h
  refine wpAny_Call_Name_kw (ld_glob I hg hm ?_ hdb)
  refine PySem.W.callWith_K (h₀ := X.base) I.ok.mod.kin hk ?_ (by rfl) (by rfl)
  show wpAny _ _ (spliced ((false, eval (.Name y yp) X.env) :: backTo pos (starEach [] X.env))) _ _ s
  refine Calls.spliced_cons (thn ((pe_var (pos := yp) (i := i) hN hv hdy hcy).run pins s σ H (fun v H1 => v = .ref f ∧ H1 = H) I ⟨.ref f, hs, rfl, rfl⟩) fun u s1 ⟨v, H1, I1, r1, q1⟩ => ?_)
  obtain ⟨rfl, eH⟩ := q1
  rw [eH] at I1
  obtain rfl : u = Value.ref f := r1
  refine Calls.spliced_nil ⟨I1.kIn, ?_⟩
  have rc : codeAny (model X.prog X.w) X.A (.call (.ref g) ⟨[.ref f], []⟩) (CR C8.CX0 X.stack X.prog X.w H s1 Q C8.E0) s1 := by
    refine run_ofS (N := Ng) (ps := [a]) (us := [.ref f]) (vs := [.ref f]) lk hcg Sg hr I1.env0 (hb s1 [.ref f] I1.kIn rfl) (.cons rfl .nil) rfl fun hr' => ?_
    obtain ⟨t', ht', hq'⟩ := hG f c' s1 H Q (fun E H' Q' => H' f = some (LamO f (F.lo c')) ∧ F.t E σ H' Q') (fun W pn xe E p1 p2 tk hW => pe_actV (i := 0) I1 F.ls (fun _ _ => F.bind _ _ _ _ _) tk hW hr' (fun A outer s H hr2 => F.pe A outer s H E f c' hr2) hNg hva hd hcd) hco ht
    exact ⟨t', ht'.nox, hq'⟩
  refine wpAny_call (codeAny_mono rc fun r s2 hq => ?_)
  cases r with
  | error e => exact (show False from hq).elim
  | ok fl =>
    cases fl with
    | ret u => exact I1.after hq
    | next => exact False.elim hq
    | brk => exact False.elim hq
    | cont => exact False.elim hq
end LamW
/-! lambdas in a list -/
namespace My
open PySem PySem.Spec PyProof.Rows L2 Evl Kpt LamX LamW
section
variable {K : PySem.W.Frag} {σ : L2.St} {H : Hp}
/-! ### lambdas in a list -/
def tLamsA (T : List (Addr × Str)) (q : Str) : List (Addr → LO) → TA
  | [] => tNil
  | mk :: r => tCons (tLamV T q mk) (tLamsA T q r)
inductive LamsAt (H : Hp) (q : Str) : List (Addr → LO) → List Addr → Prop
  | nil : LamsAt H q [] []
  | cons {mk : Addr → LO} {f c' : Addr} {r : List (Addr → LO)} {fs : List Addr} : H f = some (LamO f (mk c')) → H c' = some (CodeO c' q) → LamsAt H q r fs → LamsAt H q (mk :: r) (f :: fs)
theorem LamsAt.xn {H' : Hp} {q : Str} (e : ExtN H H') : ∀ {mks fs}, LamsAt H q mks fs → LamsAt H' q mks fs
  | _, _, .nil => .nil
  | _, _, .cons h1 h2 r => .cons (e _ _ h1 fun ps => lamO_ne ps) (e _ _ h2 fun ps => codeO_ne (ps := ps)) (r.xn e)
theorem LamsAt.at_ {q : Str} : ∀ {mks fs}, LamsAt H q mks fs → ∀ (i : Nat) (x : V), (fs.map V.ref)[i]? = some x → ∃ mk f c', mks[i]? = some mk ∧ x = .ref f ∧ H f = some (LamO f (mk c')) ∧ H c' = some (CodeO c' q)
  | _, _, .nil, _, _, h => nomatch h
  | _, _, .cons h1 h2 r, 0, x, e => ⟨_, _, _, rfl, by cases e; rfl, h1, h2⟩
  | _, _, .cons h1 h2 r, i + 1, x, e => r.at_ i x e
theorem ea_lams {T : List (Addr × Str)} {q : Str} : ∀ (mks : List (Addr → LO)) (H : Hp) (Q : List V → Hp → Prop), Tabs T H → (∀ fs H1, ExtN H H1 → Tabs T H1 → LamsAt H1 q mks fs → Q (fs.map V.ref) H1) → tLamsA T q mks σ H Q
  | [], H, Q, hT, k => k [] H (fun _ _ h _ => h) hT .nil
  | mk :: r, H, Q, hT, k => ⟨hT, fun f c' H1 e1 T1 _ hf hc => ea_lams r H1 _ T1 fun fs H2 e2 T2 h2 => k (f :: fs) H2 (fun b o h n => e2 _ _ (e1 _ _ h n) n) T2 (.cons (e2 _ _ hf fun ps => lamO_ne ps) (e2 _ _ hc fun ps => codeO_ne (ps := ps)) h2)⟩
/-- for work in [lambda: .., ..] -/
theorem s_forLams {T : List (Addr × Str)} {q : Str} {mks : List (Addr → LO)} {gt : TG} {tu : TS} {D : Ends} (hm : mks.length ≤ 1000) (hT : Tabs T H) (Pv : Addr → List Addr → Nat → L2.St → Hp → Prop)
    (h0 : ∀ p fs H1, ExtN H H1 → Tabs T H1 → LamsAt H1 q mks fs → H1 p = some (.lst (fs.map V.ref)) → Pv p fs 0 σ H1) (hl : ∀ p fs i σ' H', Pv p fs i σ' H' → H' p = some (.lst (fs.map V.ref)))
    (hs : ∀ p fs i x σ' H', (fs.map V.ref)[i]? = some x → Pv p fs i σ' H' → gt x σ' H' fun σ2 H2 => tu { D with nx := Pv p fs (i + 1), ct := Pv p fs (i + 1), bk := D.nx } σ2 H2) (hd : ∀ p fs n σ' H', Pv p fs n σ' H' → D.nx σ' H') : tFor (iList K (tLst (tLamsA T q mks))) gt tu D σ H := by
  refine ea_lams mks H _ hT fun fs H1 e1 T1 h1 => ?_
  have hlen : fs.length ≤ 1000 := by
    have : ∀ {mks fs}, LamsAt H1 q mks fs → fs.length = mks.length := by
      intro mks fs h
      induction h with
      | nil => rfl
      | cons _ _ _ ih => rw [List.length_cons, List.length_cons, ih]
    rw [this h1]
    exact hm
  refine ⟨by rw [List.length_map]; exact sz_of (by omega), fun p hp => ⟨p, rfl, ⟨fs.map V.ref, sq_of upd_same⟩, ?_⟩⟩
  have e2 : ExtN H1 (upd H1 p (.lst (fs.map V.ref))) := fun b o h _ => (Ex.new hp) b o h
  exact for_list (Pv p fs) (h0 p fs _ (fun b o h n => e2 _ _ (e1 _ _ h n) n) (T1.ext (Ex.new hp)) (h1.xn e2) upd_same) (fun i σ' H' _ h => SqL.of (hl p fs i σ' H' h)) (fun i x σ' H' hx h => hs p fs i x σ' H' hx h) (fun σ' H' h => hd p fs _ σ' H' h)
end
section
variable {X : Cx} {K : PySem.W.Frag} {DE CE : Addr} {σ : L2.St} {H : Hp} {tu : TS} {D : Ends} {k i : Nat}
/-- if not isinstance(_law_caught(ask), X): the slot's lambda raises X -/
theorem s_caughtN {fam : List (Fam X k)} {q : Str} {F : Fam X k} {f c' : Addr} (R : Hp → Prop) (hF : F ∈ fam) (hi : σ[i]? = some (some (.ref f))) (hc : H c' = some (CodeO c' q)) (hf : H f = some (LamO f (F.lo c')))
    (hx : PySem.W.exmOne K (.ref CE) (.ref DE) = some true) (hC : ExcC K CE) (ht : ∀ (E : XK) (Q : VK), (∀ H2, R H2 → E (.ref CE) none H2) → F.t E σ H Q)
    (kk : ∀ H2 H3, R H2 → Ex H2 H3 → D.nx σ H3) : tIfS (tNot (tB (tCB (rIsK K) (tCons (tLamN fam q i (TKeep K DE)) (tCons (tC (.ref CE)) tNil))))) tu tNext D σ H := by
  refine ⟨F, hF, f, c', hi, hc, hf, ht _ _ fun H2 r => ⟨hx, fun a ha => ?_⟩⟩
  exact ⟨a, CE, .ref CE, .ref CE, true, rfl, upd_same, hC, .own _, kit_self, true, rfl, kk H2 _ r (Ex.new ha)⟩
end
end My
/-! words for laws of texts -/
namespace My
open PySem PySem.Spec PyProof.Rows L2 Evl Kpt LamX LamW TL
/-! ### a text times a number -/
def repL (z : Str) (n : Nat) : Str := ⟨(List.replicate n z.cps).foldl (· ++ ·) #[]⟩
theorem fold_len (n : Nat) (a b : Array Nat) : ((List.replicate n a).foldl (· ++ ·) b).size = b.size + n * a.size := by
  induction n generalizing b with
  | zero => simp
  | succ n ih =>
    rw [List.replicate_succ, List.foldl_cons, ih, Array.size_append, Nat.succ_mul]
    omega
theorem repL_len (z : Str) (n : Nat) : (repL z n).length = n * z.length := by
  show (repL z n).cps.size = n * z.cps.size
  unfold repL
  rw [fold_len]
  simp
def rRepS : R2 := fun x y H Q => ∃ (z : Str) (k : Int), x = .str z ∧ y = .int k ∧ 2 ≤ k ∧ k ≤ 100 ∧ 0 < z.length ∧ z.length ≤ 100 ∧ Q (.str (repL z k.toNat)) H
theorem op_repS {X : Cx} : OpR X (binaryOp .Mult) rRepS := by
  intro pins s σ H x y v u Q I rx ry h
  obtain ⟨z, k, rfl, rfl, k1, k2, z1, z2, q⟩ := h
  obtain ⟨t, rfl⟩ := rx
  obtain ⟨t', rfl⟩ := ry
  have hk : ¬ k < 1 := by omega
  have h1 : ((k == 1) || (z.length == 0)) = false := by
    rw [Bool.or_eq_false_iff, beq_eq_false_iff_ne, beq_eq_false_iff_ne]
    omega
  have hn : z.length * k.toNat ≤ 10000 := Nat.le_trans (Nat.mul_le_mul z2 (show k.toNat ≤ 100 by omega)) (by decide)
  refine PySem.P.mul_str (by rw [decide_eq_false (by omega), decide_eq_false (by omega)]; rfl) (fun _ _ => ?_) (fun _ _ => ?_) ?_
  · have : (100 : Int) ≤ (2 ^ 63 - 1) / k := by
      rw [Int.le_ediv_iff_mul_le (by omega)]
      omega
    omega
  · unfold PySem.Builtin.Str.tooLong
    have : z.length * k.toNat ≤ sizeLine := sz_of (by omega)
    simp
    omega
  · rw [if_neg hk, if_neg (by rw [h1]; exact Bool.false_ne_true)]
    refine ⟨?_, .str (repL z k.toNat), H, I.tok _, ⟨_, rfl⟩, q⟩
    have : (repL z k.toNat).length ≤ sizeLine := by
      rw [repL_len]
      exact sz_of (by rw [Nat.mul_comm]; omega)
    exact this
/-! ### data at hand -/
def EvH9 (K : PySem.W.Frag) (te : TE) (σ : L2.St) (H : Hp) (d : PyData) : Prop := ∀ H1, Ex H H1 → ∀ Q : VK, (∀ v H2, Ex H1 H2 → Dq K H2 v d → Q v H2) → te σ H1 Q
section
variable {K : PySem.W.Frag} {σ : L2.St} {H : Hp} {te ta tb : TE} {d e : PyData}
theorem evh9_var {i : Nat} {v : V} (hi : σ[i]? = some (some v)) (h : Dq K H v d) : EvH9 K (tVar i) σ H d := fun H1 e Q q => ⟨v, hi, q v H1 (Ex.refl _) (h.up e)⟩
theorem ev_repr9 (h1 : EvH9 K ta σ H d) (h2 : EvH9 K tb σ H e) (hr : Rpr (.list [d, e])) : Ev (tCB (rReprD K) (tCons (tLst (tCons ta (tCons tb tNil))) tNil)) σ H (.str (PyData.list [d, e]).shown) := fun H1 e1 Q q =>
  h1 H1 e1 _ fun u H2 e2 hu => h2 H2 (e1.trans e2) _ fun v H3 e3 hv => ⟨by show 2 ≤ sizeLine; decide, fun p hp => by
    have e4 : Ex H3 (upd H3 p (.lst [u, v])) := Ex.new hp
    have dp : Dq K (upd H3 p (.lst [u, v])) (.ref p) (.list [d, e]) := .lst (SqL.of upd_same) (.cons ((hu.up e3).up e4) (.cons (hv.up e4) .nil))
    exact ⟨p, _, rfl, dp.dp hr.nd, hr.sh, hr.nd, hr.dp, hr.len, q _ ((e2.trans e3).trans e4)⟩⟩
theorem ev_reprI {i : Int} (h : Ev te σ H (.int i)) (hi : i.natAbs < 2 ^ 1000) : Ev (tCB (fun xs H Q => ∃ i : Int, xs = [.int i] ∧ i.natAbs.log2 < 1920 ∧ Q (.str (toString i)) H) (tCons te tNil)) σ H (.str (numT i)) := ev_strI h hi
/-- "\\n".join(list of texts) -/
theorem ev_join {l : Addr} {ss : List Str} {sep : Str} (ha : Ev ta σ H (.str sep)) (hb : Ev tb σ H (.ref l)) (hl : H l = some (.lst (ss.map V.str))) (hz : (ss.map (·.length)).sum + ss.length * sep.length ≤ 16777216) :
    Ev (tM1 (fun x xs H Q => ∃ a p, ∃ ys : List Str, x = .str a ∧ xs = [.ref p] ∧ (SqL K H p (ys.map V.str) ∨ SqT K H p (ys.map V.str)) ∧ (ys.map (·.length)).sum + ys.length * a.length ≤ 16777216 ∧ Q (.str (Txt.join a ys)) H) ta tb) σ H (.str (Txt.join sep ss)) := fun H1 e Q q =>
  ha H1 e _ fun H2 e2 => ⟨⟨_, rfl⟩, hb H2 (e.trans e2) _ fun H3 e3 => ⟨sep, l, ss, rfl, rfl, .inl (SqL.of (((e.trans e2).trans e3) _ _ hl)), hz, q H3 (e2.trans e3)⟩⟩
theorem ev_joinL {ss : List Str} {sep : Str} (ha : Ev ta σ H (.str sep)) (hb : EvL tb σ H (ss.map V.str)) (hz : (ss.map (·.length)).sum + ss.length * sep.length ≤ 16777216) :
    Ev (tM1 (fun x xs H Q => ∃ a p, ∃ ys : List Str, x = .str a ∧ xs = [.ref p] ∧ (SqL K H p (ys.map V.str) ∨ SqT K H p (ys.map V.str)) ∧ (ys.map (·.length)).sum + ys.length * a.length ≤ 16777216 ∧ Q (.str (Txt.join a ys)) H) ta tb) σ H (.str (Txt.join sep ss)) := fun H1 e Q q =>
  ha H1 e _ fun H2 e2 => ⟨⟨_, rfl⟩, hb H2 (e.trans e2) _ fun p H3 _ e3 hp => ⟨sep, p, ss, rfl, rfl, .inl (SqL.of hp), hz, q H3 (e2.trans e3)⟩⟩
theorem dq_strs {H : Hp} : ∀ ss : List Str, DqAll K H (ss.map V.str) (ss.map .str)
  | [] => .nil
  | s :: r => .cons (.str s) (dq_strs r)
theorem strs_dq {H : Hp} : ∀ {xs : List V} {ss : List Str}, DqAll K H xs (ss.map .str) → xs = ss.map V.str
  | [], [], _ => rfl
  | [], _ :: _, h => by cases h
  | _ :: _, [], h => by cases h
  | x :: xs, s :: ss, h => by
    cases h with
    | cons h r =>
      have h : Dq K H x (.str s) := h
      cases h
      rw [strs_dq r]
      rfl
end
/-! ### places are shown -/
theorem numT_shown (i : Int) : (PyData.int i).shown = numT i := by simp [PyData.shown, numT]
theorem rd_near {i : Int} (h : i.natAbs < 10 ^ 7) : RD 0 30 (.int i) := by
  have hl : (PyData.int i).shown.length ≤ 10 := by
    rw [numT_shown]
    have := numT_len h
    omega
  refine ⟨?_, by rw [PyData.hasDict], by simp [PyData.depth], by rw [PyData.leavesShort]; exact decide_eq_true hl, ?_⟩
  · unfold PyData.showable
    refine decide_eq_true ?_
    have : i.natAbs < 2 ^ 24 := by omega
    rcases Nat.eq_zero_or_pos i.natAbs with z | z
    · rw [z]; decide
    · have := (Nat.log2_lt (by omega)).mpr this
      omega
  · unfold PyData.weight
    have h3 : i.natAbs < 2 ^ 24 := by omega
    by_cases z : i = 0
    · subst z
      decide
    · rw [if_neg (by simpa using z)]
      have := (Nat.log2_lt (by omega)).mpr h3
      omega
theorem rd_pair {p : Int × Int} (h : Near p) : RD 1 80 (prD p) := by
  obtain ⟨h1, h2⟩ := near_abs h
  exact (RD.tuple (.cons (rd_near h1) (.cons (rd_near h2) .nil (w1 := 30) (w2 := 0) (w := 31) (by decide)) (w := 62) (by decide))).mono (by decide) (by decide)
theorem rd_places {ps : List (Int × Int)} (hl : ps.length ≤ 24) (h : ∀ p ∈ ps, Near p) : RD 2 2000 (.tuple (ps.map prD)) := by
  refine (RD.tuple (RDs.all (k := 1) (w := 80) fun d hd => ?_)).mono (by decide) ?_
  · obtain ⟨p, hp, rfl⟩ := List.mem_map.mp hd
    exact rd_pair (h p hp)
  · rw [List.length_map]
    omega
theorem rpr_places {ps : List (Int × Int)} (hl : ps.length ≤ 24) (h : ∀ p ∈ ps, Near p) : Rpr (.list [.tuple (ps.map prD), .tuple (ps.map prD)]) :=
  (RD.list (.cons (rd_places hl h) (.cons (rd_places hl h) .nil (w1 := 2000) (w2 := 0) (w := 2001) (by decide)) (w := 4002) (by decide))).rpr (by decide) (by decide)
/-! ### isinstance of None, of a held error with or without a dict -/
def rIsKO (K : PySem.W.Frag) : List V → Hp → VK → Prop := fun xs H Q => ∃ (a C : Addr) (d : Option Addr) (c : V) (cv : Value) (b : Bool), xs = [.ref a, c] ∧ H a = some (ExK (.ref C) d a) ∧ (∀ dd, d = some dd → ∃ fs, H dd = some (.xd fs)) ∧ ExcC K C ∧ ClsV c cv ∧ PySem.W.kitOne K (.ref C) cv = some b ∧ Q (.bl b) H
def rIs9 (K : PySem.W.Frag) : List V → Hp → VK → Prop := fun xs H Q => rIsi K xs H Q ∨ rIsKO K xs H Q
theorem call_is9 {X : Cx} : CallR X (.builtin "isinstance") (rIs9 X.K) := fun pins s σ H xs us Q I r h => h.elim (fun h => call_isi pins s σ H xs us Q I r h) fun h => by
  obtain ⟨a, C, d, c, cv, b, rfl, ea, hdd, T, k, e, q⟩ := h
  obtain ⟨u1, u2, rfl, r1, r2⟩ := vals2 r
  have e2 := k.eq r2
  subst e2
  obtain rfl : u1 = Value.ref a := r1
  obtain ⟨oe, vs, ho, hz, hd⟩ := (show ObjOk X.prog X.w H s.heap a (ExK (.ref C) d a) from I.hok a _ ea).1
  cases d with
  | none =>
    have J : PySem.W.InstAt s.heap a oe C none := ⟨ho, hz.1, by unfold PySem.W.notCls; rw [hd] <;> rfl, by rw [hz.2]; trivial⟩
    exact PySem.W.kia_one (PySem.W.handS_kitx_exc T.hg T.hk T.hs T.hd T.ha T.hn T.ht T.hm) I.kIn J e (fun z => nomatch z) fun tk => ⟨.bl b, H, I.tok tk, rfl, q⟩
  | some dd =>
    obtain ⟨fs, hf⟩ := hdd dd rfl
    obtain ⟨mA, hns, _⟩ := (show ObjOk X.prog X.w H s.heap dd (.xd fs) from I.hok dd _ hf)
    obtain ⟨od, hod, _⟩ := lookIn_ns hns
    have J : PySem.W.InstAt s.heap a oe C (some od) := ⟨ho, hz.1, by unfold PySem.W.notCls; rw [hd] <;> rfl, by rw [hz.2]; exact hod⟩
    have hcl : (PySem.W.clsIn X.K C).isSome = true := by
      obtain ⟨cd, hc, _⟩ := PySem.W.any_some T.hd
      rw [hc]; rfl
    exact PySem.W.kia_one (PySem.W.kitx_exc hcl T.hg T.hk T.hs T.ha T.hn T.ht T.hm) I.kIn J e (fun z => nomatch z) fun tk => ⟨.bl b, H, I.tok tk, rfl, q⟩
section
variable {K : PySem.W.Frag} {σ : L2.St} {H : Hp} {te : TE} {D : DA}
/-- a held BadText that tells n -/
def HeldT (K : PySem.W.Frag) (CT : Addr) (H : Hp) (v : V) (n : Int) : Prop := ∃ a d, v = .ref a ∧ H a = some (ExK (.ref CT) (some d) a) ∧ H d = some (.xd [("line", .int n)])
theorem HeldT.up {CT : Addr} {H' : Hp} {v : V} {n : Int} (e : Ex H H') (h : HeldT K CT H v n) : HeldT K CT H' v n := let ⟨a, d, h1, h2, h3⟩ := h; ⟨a, d, h1, e _ _ h2, e _ _ h3⟩
theorem ev_isHeld {CT : Addr} {v : V} {n : Int} (h : Ev te σ H v) (hv : HeldT K CT H v n) (hc : ExcC K CT) : Ev (tCB (rIs9 K) (tCons te (tCons (tC (.ref CT)) tNil))) σ H (.bl true) :=
  ev_cb (ea_cons h (ea_cons ev_c ea_nil)) fun H1 e1 Q q => by
    obtain ⟨a, d, rfl, h2, h3⟩ := hv
    exact .inr ⟨a, CT, some d, .ref CT, .ref CT, true, rfl, e1 _ _ h2, fun dd hd => ⟨_, e1 _ _ (by cases hd; exact h3)⟩, hc, .own _, kit_self, q H1 (Ex.refl _)⟩
theorem ev_line {CT : Addr} {v : V} {n : Int} (h : Ev te σ H v) (hv : HeldT K CT H v n) (hx : XfC K CT) (hno : PySem.W.findIn K (.ref CT) "line" = some none) : Ev (tXfK K "line" te) σ H (.int n) := fun H1 e Q q => h H1 e _ fun H2 e2 => by
  obtain ⟨a, d, rfl, h2, h3⟩ := hv
  exact ⟨a, CT, d, .int n, rfl, (e.trans e2) _ _ h2, (e.trans e2) _ _ h3, hx, hno, q H2 e2⟩
/-- _law_nt_ties, the pairs -/
theorem exp_ties9 {tm to : TE} {t : Nat} {m hi : Int} {E : XK} {i : Nat} {Q : VK} (hi0 : σ[i]? = some (some (.ref D.d))) (hm : Ev tm σ H (.int m)) (m1 : 1 ≤ m ∧ m ≤ 24) (ho : Ev to σ H (.int hi)) (h0 : 0 ≤ hi) (hh : hi < 100000) (st : ST D H t) (tl : t + 2000 ≤ lim)
    (q : ∀ (a : Addr) (xs : List V) (ks : List (Int × Int)) (H' : Hp), ST D H' (t + 2000) → Kx D.d D.g H H' → H' a = some (.tup xs) → PrL H' xs ks → OkNet m ks → Q (.ref a) H') : tCall (spTies K) [] E (tCons (tVar i) (tCons tm (tCons to tNil))) σ H Q :=
  ⟨_, hi0, hm H (Ex.refl _) _ fun H1 e1 => ho H1 e1 _ fun H2 e2 => by
    obtain ⟨⟨s, hs, t0, t1⟩, hT, hS⟩ := id ((st.up e1).up e2)
    have hlim : lim = 1000000000 := rfl
    exact ⟨D.d, D.g, D.c, s, m, hi, rfl, hs, t0, by omega, m1.1, m1.2, h0, hh, fun H4 s' a xs ks st4 c4 l4 u4 k4 ha ha4 hk ok _ => q a xs ks H4 (((st.up e1).up e2).kp k4 st4 (by omega) (by omega)) ((Kx.ex (e1.trans e2)).trans (Kx.kp k4)) ha4 hk ok⟩⟩
end
end My
/-! tuple * 0, tuple * 1 (HandS.TupMul wants 2 or more) -/
namespace My
open PySem PySem.Spec PyProof.Rows L2
theorem tuple_mul1 (l : Addr) (items : Array Value) (n : Nat) (sl : Array (Option Value)) (dd : Option Addr) (u : Tok) :
    Meets (Builtin.«tuple.__mul__» ⟨[.ref l, .int 1 u], []⟩) (fun _ R s => s.heap.get? l = some { cls := .type "tuple", dict := dd, data := .seq items n, slots := sl } ∧ R (.ok (.ret (Value.ref l))) s) :=
  .of_wp fun prog w A R s h => by
    obtain ⟨hp, g, d, tk, os⟩ := s
    obtain ⟨hl, h⟩ := h
    have f1 := AutoSeq1.idx_int
    have c1 : (items.isEmpty || (1 : Int) == 1) = true := by rw [Bool.or_eq_true]; exact .inr rfl
    wp_walk using wpAny_loadPart' hl
    repeat (first
      | (refine wpAny_ite_false (decide_eq_false (by decide)) ?_; wp_walk using wpAny_loadPart' hl)
      | (refine wpAny_ite_true (decide_eq_true (by rw [c1])) ?_; wp_walk using wpAny_loadPart' hl))
    exact ⟨_, rfl, h⟩
theorem tuple_mul0 (l : Addr) (items : Array Value) (n : Nat) (sl : Array (Option Value)) (dd : Option Addr) (u : Tok) (hi : items.isEmpty = false) :
    Meets (Builtin.«tuple.__mul__» ⟨[.ref l, .int 0 u], []⟩) (fun _ R s => s.heap.get? l = some { cls := .type "tuple", dict := dd, data := .seq items n, slots := sl } ∧
      R (.ok (.ret (Value.ref s.heap.objs.size))) { s with heap := s.heap.push { cls := Value.type "tuple", data := Data.seq #[] }, toks := s.toks }) :=
  .of_wp fun prog w A R s h => by
    obtain ⟨hp, g, d, tk, os⟩ := s
    obtain ⟨hl, h⟩ := h
    have f1 := AutoSeq1.idx_int
    have c1 : (items.isEmpty || (0 : Int) == 1) = false := by rw [hi]; rfl
    have c2 : (decide ((0 : Int) ≤ 0) || items.isEmpty) = true := rfl
    wp_walk using wpAny_loadPart' hl
    repeat (first
      | (refine wpAny_ite_false (decide_eq_false (by rw [c1]; exact Bool.false_ne_true)) ?_; wp_walk using wpAny_loadPart' hl)
      | (refine wpAny_ite_true (decide_eq_true (by rw [c2])) ?_; wp_walk using wpAny_loadPart' hl)
      | (refine wpAny_ite_false (decide_eq_false (by decide)) ?_; wp_walk using wpAny_loadPart' hl))
    exact ⟨_, rfl, h⟩
/-- tuple * int, any count from 0 on -/
def rRepT0 (K : PySem.W.Frag) : R2 := fun x y H Q => ∃ l k xs, x = .ref l ∧ y = .int k ∧ SqT K H l xs ∧ xs ≠ [] ∧ 0 ≤ k ∧ k ≤ 1000 ∧ xs.length ≤ 1000 ∧ (k = 1 → Q (.ref l) H) ∧ (k ≠ 1 → ∀ p, H p = none → Q (.ref p) (upd H p (.tup (List.replicate k.toNat xs).flatten)))
section
variable {X : Cx}
theorem op_repT0 : OpR X (binaryOp .Mult) (rRepT0 X.K) := by
  intro pins s σ H x y v u Q I rx ry h
  obtain ⟨l, k, xs, rfl, rfl, hT, hne, h1, h2, hz, q1, qn⟩ := h
  by_cases hk2 : 2 ≤ k
  · exact op_repT pins s σ H _ _ v u Q I rx ry ⟨l, k, xs, rfl, rfl, hT, hne, hk2, h2, hz, qn (by omega)⟩
  cases rx
  obtain ⟨t, rfl⟩ := ry
  obtain ⟨its, r, ⟨⟨cls, dd, data, sl⟩, ho, hc, n, hd⟩, hs⟩ := I.tuple hT
  simp only at hc hd
  subst hc hd
  have hle : its.length = xs.length := r.length.symm
  have hn : its ≠ [] := fun e => hne (by
    rw [e] at hle
    exact List.eq_nil_of_length_eq_zero hle.symm)
  have hi : its.toArray.isEmpty = false := by
    cases its with
    | nil => exact absurd rfl hn
    | cons a b => rfl
  by_cases e1 : k = 1
  · subst e1
    refine wpAny_binaryOp_repeat_ref (T := "tuple") (U := "int") (by decide) ⟨_, ho, rfl⟩ (fun s' => typeIs_int s' 1 t) noFill_tuple_mul F.fills_int_mul F.slot_int_rmul repeat_tuple F.slot_int_index.lookup
      (call_meets F.slot_int_rmul (typeIs_int s 1 t) F.entry_int_rmul (F.args_int_rmul_2 _ _) (int_rmul_tuple 1 t l its.toArray n dd sl)
        ⟨ho, rfl, ⟨_, ho, rfl⟩, call_meets F.slot_tuple_mul ⟨_, ho, rfl⟩ F.entry_tuple_mul (F.args_tuple_mul_2 _ _) (tuple_mul1 l its.toArray n sl dd t) ⟨ho, ?_⟩⟩)
    exact ⟨.ref l, H, I, rfl, q1 rfl⟩
  · have e0 : k = 0 := by omega
    subst e0
    refine wpAny_binaryOp_repeat_ref (T := "tuple") (U := "int") (by decide) ⟨_, ho, rfl⟩ (fun s' => typeIs_int s' 0 t) noFill_tuple_mul F.fills_int_mul F.slot_int_rmul repeat_tuple F.slot_int_index.lookup
      (call_meets F.slot_int_rmul (typeIs_int s 0 t) F.entry_int_rmul (F.args_int_rmul_2 _ _) (int_rmul_tuple 0 t l its.toArray n dd sl)
        ⟨ho, rfl, ⟨_, ho, rfl⟩, call_meets F.slot_tuple_mul ⟨_, ho, rfl⟩ F.entry_tuple_mul (F.args_tuple_mul_2 _ _) (tuple_mul0 l its.toArray n sl dd t hi) ⟨ho, ?_⟩⟩)
    refine ⟨.ref s.heap.objs.size, _, I.laid (t' := s.toks) (o := .tup []) (fun b ob q => Heap.get?_push_of_some _ q) (Nat.le_refl _) ?_, rfl, qn e1 _ (I.hok.fresh (Nat.le_refl _))⟩
    exact ⟨by show 0 ≤ sizeLine; decide, _, .nil, IsTup.new _ _⟩
end
end My
/-! _law_st_no_places -/
namespace My
open PySem PySem.Spec PyProof.Rows L2 Evl
/-- items and places, by what they are -/
inductive ItC (K : PySem.W.Frag) (d g : Addr) (H : Hp) : V → Option (List V) → Prop
  | tup {t : Addr} {ys : List V} : SqT K H t ys → (∀ y ∈ ys, flatV y = true) → ys.length ≤ 100 → ItC K d g H (.ref t) (some ys)
  | int (i : Int) : ItC K d g H (.int i) none
  | lst {a : Addr} {xs : List V} : H a = some (.lst xs) → a ≠ d → a ≠ g → ItC K d g H (.ref a) none
inductive ItCs (K : PySem.W.Frag) (d g : Addr) (H : Hp) : List V → List (Option (List V)) → Prop
  | nil : ItCs K d g H [] []
  | cons {x : V} {o : Option (List V)} {xs : List V} {os : List (Option (List V))} : ItC K d g H x o → ItCs K d g H xs os → ItCs K d g H (x :: xs) (o :: os)
inductive ArC (K : PySem.W.Frag) (d g : Addr) (H : Hp) : V → Option (List (Option (List V))) → Prop
  | tup {t : Addr} {xs : List V} {os : List (Option (List V))} : SqT K H t xs → ItCs K d g H xs os → xs.length ≤ 100 → ArC K d g H (.ref t) (some os)
  | non : ArC K d g H .non none
  | int (i : Int) : ArC K d g H (.int i) none
  | lst {a : Addr} {xs : List V} : H a = some (.lst xs) → a ≠ d → a ≠ g → ArC K d g H (.ref a) none
section
variable {K : PySem.W.Frag} {d g : Addr} {H H' : Hp}
theorem ItC.up (e : Ex H H') {x : V} {o : Option (List V)} (h : ItC K d g H x o) : ItC K d g H' x o := by
  cases h with
  | tup h1 h2 h3 => exact .tup (ex_t e h1) h2 h3
  | int i => exact .int i
  | lst h1 h2 h3 => exact .lst (e _ _ h1) h2 h3
theorem ItCs.up (e : Ex H H') : ∀ {xs os}, ItCs K d g H xs os → ItCs K d g H' xs os
  | _, _, .nil => .nil
  | _, _, .cons h r => .cons (h.up e) (ItCs.up e r)
theorem ArC.up (e : Ex H H') {x : V} {o} (h : ArC K d g H x o) : ArC K d g H' x o := by
  cases h with
  | tup h1 h2 h3 => exact .tup (ex_t e h1) (h2.up e) h3
  | non => exact .non
  | int i => exact .int i
  | lst h1 h2 h3 => exact .lst (e _ _ h1) h2 h3
theorem ItC.kp {c : Addr} {s : Src} (st : StX H d g c s) (k : Kp d g H H') {x : V} {o : Option (List V)} (h : ItC K d g H x o) : ItC K d g H' x o := by
  cases h with
  | tup h1 h2 h3 => exact .tup (sqt_kp st k h1) h2 h3
  | int i => exact .int i
  | lst h1 h2 h3 => exact .lst (k _ _ h2 h3 h1) h2 h3
theorem ItCs.kp {c : Addr} {s : Src} (st : StX H d g c s) (k : Kp d g H H') : ∀ {xs os}, ItCs K d g H xs os → ItCs K d g H' xs os
  | _, _, .nil => .nil
  | _, _, .cons h r => .cons (h.kp st k) (ItCs.kp st k r)
theorem ArC.kp {c : Addr} {s : Src} (st : StX H d g c s) (k : Kp d g H H') {x : V} {o} (h : ArC K d g H x o) : ArC K d g H' x o := by
  cases h with
  | tup h1 h2 h3 => exact .tup (sqt_kp st k h1) (h2.kp st k) h3
  | non => exact .non
  | int i => exact .int i
  | lst h1 h2 h3 => exact .lst (k _ _ h2 h3 h1) h2 h3
theorem ItC.it {x : V} {o : Option (List V)} (h : ItC K d g H x o) : ItV K H x o := by
  cases h with
  | tup h1 h2 h3 => exact .tup h1 h2 h3
  | int i => exact .no fun H2 e2 => ⟨_, .base (.int i), rfl⟩
  | lst h1 h2 h3 => exact .no fun H2 e2 => ⟨_, .base (.lst (e2 _ _ h1)), rfl⟩
theorem ItCs.it : ∀ {xs os}, ItCs K d g H xs os → ItL K H xs os
  | _, _, .nil => .nil
  | _, _, .cons h r => .cons h.it r.it
theorem ArC.ar {x : V} {o} (h : ArC K d g H x o) : ArV K H x o := by
  cases h with
  | tup h1 h2 h3 => exact .tup h1 h2.it h3
  | non => exact .no fun H2 e2 => ⟨_, .base .non, rfl⟩
  | int i => exact .no fun H2 e2 => ⟨_, .base (.int i), rfl⟩
  | lst h1 h2 h3 => exact .no fun H2 e2 => ⟨_, .base (.lst (e2 _ _ h1)), rfl⟩
theorem ItCs.app : ∀ {xs os ys ps}, ItCs K d g H xs os → ItCs K d g H ys ps → ItCs K d g H (xs ++ ys) (os ++ ps)
  | _, _, _, _, .nil, k => k
  | _, _, _, _, .cons h r, k => .cons h (r.app k)
theorem ItCs.len : ∀ {xs os}, ItCs K d g H xs os → xs.length = os.length
  | _, _, .nil => rfl
  | _, _, .cons _ r => congrArg (· + 1) r.len
/-- a word gives an item, a tuple of items, a bad value -/
def EvI (K : PySem.W.Frag) (d g : Addr) (te : TE) (σ : L2.St) (H : Hp) (o : Option (List V)) : Prop := ∀ H1, Ex H H1 → ∀ Q : VK, (∀ v H2, Ex H1 H2 → ItC K d g H2 v o → Q v H2) → te σ H1 Q
def EaI (K : PySem.W.Frag) (d g : Addr) (ta : TA) (σ : L2.St) (H : Hp) (os : List (Option (List V))) : Prop := ∀ H1, Ex H H1 → ∀ Q : List V → Hp → Prop, (∀ vs H2, Ex H1 H2 → ItCs K d g H2 vs os → Q vs H2) → ta σ H1 Q
def EvG (K : PySem.W.Frag) (d g : Addr) (te : TE) (σ : L2.St) (H : Hp) (os : List (Option (List V))) : Prop := ∀ H1, Ex H H1 → ∀ Q : VK, (∀ t xs H2, Ex H1 H2 → SqT K H2 t xs → ItCs K d g H2 xs os → Q (.ref t) H2) → te σ H1 Q
def EvC (K : PySem.W.Frag) (d g : Addr) (te : TE) (σ : L2.St) (H : Hp) (o : Option (List (Option (List V)))) : Prop := ∀ H1, Ex H H1 → ∀ Q : VK, (∀ v H2, Ex H1 H2 → ArC K d g H2 v o → Q v H2) → te σ H1 Q
variable {σ : L2.St} {te ta tb : TE}
theorem ei_tup {t : TA} {ys : List V} (h : EvA t σ H ys) (hf : ∀ y ∈ ys, flatV y = true) (hl : ys.length ≤ 100) : EvI K d g (tTup t) σ H (some ys) := fun H1 e Q q =>
  eu_tup h (by omega) H1 e _ fun p H2 _ e2 h2 => q _ H2 e2 (.tup (SqT.of h2) hf hl)
theorem eai_nil : EaI K d g tNil σ H [] := fun H1 e Q q => q [] H1 (Ex.refl _) .nil
theorem eai_cons {tr : TA} {o : Option (List V)} {os : List (Option (List V))} (h : EvI K d g te σ H o) (hr : EaI K d g tr σ H os) : EaI K d g (tCons te tr) σ H (o :: os) := fun H1 e Q q =>
  h H1 e _ fun v H2 e2 hv => hr H2 (e.trans e2) _ fun vs H3 e3 hvs => q _ H3 (e2.trans e3) (.cons (hv.up e3) hvs)
theorem eg_tup {t : TA} {os : List (Option (List V))} (h : EaI K d g t σ H os) (hl : os.length ≤ 100) : EvG K d g (tTup t) σ H os := fun H1 e Q q =>
  h H1 e _ fun vs H2 e2 hvs => ⟨by have := hvs.len; exact sz_of (by omega), fun p hp => q p vs _ (e2.trans (Ex.new hp)) (SqT.of upd_same) (hvs.up (Ex.new hp))⟩
theorem eg_cat {os ps : List (Option (List V))} (h : EvG K d g ta σ H os) (k : EvG K d g tb σ H ps) (hz : os.length + ps.length ≤ 100) : EvG K d g (tOp (rCatA K) ta tb) σ H (os ++ ps) := fun H1 e Q q =>
  h H1 e _ fun a xs H2 e2 ha hx => k H2 (e.trans e2) _ fun b ys H3 e3 hb hy => ⟨a, b, xs, ys, rfl, rfl, ex_t e3 ha, hb, by rw [hx.len, hy.len]; exact sz_of (by omega), fun z => by
    subst z
    exact q b _ H3 (e2.trans e3) hb ((hx.up e3).app hy), fun _ z => by
    subst z
    refine q a _ H3 (e2.trans e3) (ex_t e3 ha) ?_
    have := (hx.up e3).app hy
    rw [List.append_nil] at this
    exact this, fun _ _ p hp => q p _ _ ((e2.trans e3).trans (Ex.new hp)) (SqT.of upd_same) (((hx.up e3).app hy).up (Ex.new hp))⟩
theorem ec_g {os : List (Option (List V))} (h : EvG K d g te σ H os) (hl : os.length ≤ 100) : EvC K d g te σ H (some os) := fun H1 e Q q =>
  h H1 e _ fun t xs H2 e2 ht hx => q _ H2 e2 (.tup ht hx (by rw [hx.len]; exact hl))
theorem ec_non : EvC K d g (tC .non) σ H none := fun H1 e Q q => q _ H1 (Ex.refl _) .non
theorem ec_int {i : Int} : EvC K d g (tC (.int i)) σ H none := fun H1 e Q q => q _ H1 (Ex.refl _) (.int i)
/-- list(tuple) -/
theorem ec_list {os : List (Option (List V))} (od : ∃ o, H d = some o) (og : ∃ o, H g = some o) (h : EvG K d g te σ H os) : EvC K d g (tCB (rListS K) (tCons te tNil)) σ H none := fun H1 e Q q =>
  h H1 e _ fun t xs H2 e2 ht hx => ⟨t, xs, rfl, .inr ht, fun l hl => q _ _ (e2.trans (Ex.new hl)) (.lst upd_same (fun z => by
    obtain ⟨o, ho⟩ := od
    rw [z, (e.trans e2) _ _ ho] at hl
    cases hl) (fun z => by
    obtain ⟨o, ho⟩ := og
    rw [z, (e.trans e2) _ _ ho] at hl
    cases hl))⟩
theorem eg_var {i : Nat} {G : Addr} {xs : List V} {os : List (Option (List V))} (h : σ[i]? = some (some (.ref G))) (hG : SqT K H G xs) (hx : ItCs K d g H xs os) : EvG K d g (tVar i) σ H os := fun H1 e Q q => ⟨_, h, q G xs H1 (Ex.refl _) (ex_t e hG) (hx.up e)⟩
theorem ei_int {i : Int} : EvI K d g (tC (.int i)) σ H none := fun H1 e Q q => q _ H1 (Ex.refl _) (.int i)
theorem ei_lst {t : TA} {ys : List V} (od : ∃ o, H d = some o) (og : ∃ o, H g = some o) (h : EvA t σ H ys) (hl : ys.length ≤ 100) : EvI K d g (tLst t) σ H none := fun H1 e Q q =>
  el_lst h (by omega) H1 e _ fun p H2 hp e2 h2 => q _ H2 e2 (.lst h2 (fun z => by
    obtain ⟨o, ho⟩ := od
    rw [z, e _ _ ho] at hp
    cases hp) (fun z => by
    obtain ⟨o, ho⟩ := og
    rw [z, e _ _ ho] at hp
    cases hp))
theorem its_rep {vs : List V} {o : Option (List V)} (h : ItCs K d g H vs [o]) : ∀ k : Nat, ItCs K d g H (List.replicate k vs).flatten (List.replicate k o)
  | 0 => .nil
  | k + 1 => by
    rw [List.replicate_succ, List.replicate_succ, List.flatten_cons]
    exact h.app (its_rep h k)
theorem eg_rep {ti : TE} {o : Option (List V)} {k : Nat} (h : EvI K d g ti σ H o) (hk : Ev te σ H (.int (k : Int))) (hk1 : k ≤ 100) : EvG K d g (tOp (rRepT0 K) (tTup (tCons ti tNil)) te) σ H (List.replicate k o) := fun H1 e Q q =>
  eg_tup (eai_cons h eai_nil) (by show 1 ≤ 100; decide) H1 e _ fun p vs H2 e2 hp hvs => hk H2 (e.trans e2) _ fun H3 e3 => by
    have hl := hvs.len
    have hv3 := hvs.up e3
    refine ⟨p, (k : Int), vs, rfl, rfl, ex_t e3 hp, (fun z => by rw [z] at hl; cases hl), by omega, by omega, by rw [hl]; show 1 ≤ 1000; decide, fun h1 => ?_, fun _ r hr => ?_⟩
    · have e1 : k = 1 := by omega
      subst e1
      exact q p vs H3 (e2.trans e3) (ex_t e3 hp) hv3
    · exact q r _ _ ((e2.trans e3).trans (Ex.new hr)) (SqT.of upd_same) ((its_rep hv3 k).up (Ex.new hr))
theorem q_asgG {tz : TS} {D : Ends} {i : Nat} {os : List (Option (List V))} (h : EvG K d g te σ H os) (k : ∀ t xs H1, Ex H H1 → SqT K H1 t xs → ItCs K d g H1 xs os → tz D (σ.set i (some (.ref t))) H1) : tSeq (tAsg te (gName i)) tz D σ H :=
  h H (Ex.refl H) _ fun t xs H1 e h1 h2 => k t xs H1 e h1 h2
theorem okAll_len {m : Int} {os : List (Option (List V))} (h : (os.length : Int) ≠ m) : okAll m (some os) = false := by
  show (decide ((os.length : Int) = m) && _) = false
  rw [decide_eq_false h, Bool.false_and]
theorem okAll_bad {m : Int} {os : List (Option (List V))} {o : Option (List V)} (h : okItem o = false) : okAll m (some (os ++ [o])) = false := by
  show (decide _ && (os ++ [o]).all okItem) = false
  rw [List.all_append, List.all_cons, h, Bool.false_and, Bool.and_false, Bool.and_false]
/-- a list of bad values -/
def BadAll (K : PySem.W.Frag) (d g : Addr) (m : Int) (H : Hp) (vs : List V) : Prop := ∀ v ∈ vs, ∃ o, ArC K d g H v o ∧ okAll m o = false
def EaB (K : PySem.W.Frag) (d g : Addr) (m : Int) (n : Nat) (t : TA) (σ : L2.St) (H : Hp) : Prop := ∀ H1, Ex H H1 → ∀ Q : List V → Hp → Prop, (∀ vs H2, Ex H1 H2 → vs.length = n → BadAll K d g m H2 vs → Q vs H2) → t σ H1 Q
theorem BadAll.up {m : Int} {vs : List V} (e : Ex H H') (h : BadAll K d g m H vs) : BadAll K d g m H' vs := fun v hv => let ⟨o, h1, h2⟩ := h v hv; ⟨o, h1.up e, h2⟩
theorem eb_nil {m : Int} : EaB K d g m 0 tNil σ H := fun H1 e Q q => q [] H1 (Ex.refl _) rfl fun v hv => by cases hv
theorem eb_cons {m : Int} {n : Nat} {tr : TA} {o : Option (List (Option (List V)))} (h : EvC K d g te σ H o) (ho : okAll m o = false) (hr : EaB K d g m n tr σ H) : EaB K d g m (n + 1) (tCons te tr) σ H := fun H1 e Q q =>
  h H1 e _ fun v H2 e2 hv => hr H2 (e.trans e2) _ fun vs H3 e3 hn hvs => q _ H3 (e2.trans e3) (congrArg (· + 1) hn) fun x hx => by
    rcases List.mem_cons.mp hx with rfl | hx
    · exact ⟨o, hv.up e3, ho⟩
    · exact hvs x hx
end
section
variable {K : PySem.W.Frag} {d g : Addr} {H H' : Hp} {σ : L2.St} {te ta tb : TE}
/-- a new list of bad values -/
def EvB (K : PySem.W.Frag) (d g : Addr) (m : Int) (n : Nat) (te : TE) (σ : L2.St) (H : Hp) : Prop := ∀ H1, Ex H H1 → ∀ Q : VK, (∀ p vs H2, H1 p = none → Ex H1 H2 → H2 p = some (.lst vs) → vs.length = n → BadAll K d g m H2 vs → Q (.ref p) H2) → te σ H1 Q
theorem evb_lst {m : Int} {n : Nat} {t : TA} (h : EaB K d g m n t σ H) (hn : n ≤ 100) : EvB K d g m n (tLst t) σ H := fun H1 e Q q =>
  h H1 e _ fun vs H2 e2 hv hb => ⟨sz_of (by omega), fun p hp => q p vs _ (fresh_back e2 hp) (e2.trans (Ex.new hp)) upd_same hv (hb.up (Ex.new hp))⟩
theorem evb_cat {m : Int} {n k : Nat} {l : Addr} {xs : List V} (ha : Ev ta σ H (.ref l)) (hl : H l = some (.lst xs)) (hx : BadAll K d g m H xs) (hk : xs.length = k) (hb : EvB K d g m n tb σ H) (hz : k + n ≤ 100) : EvB K d g m (k + n) (tOp rCat ta tb) σ H := fun H1 e Q q =>
  ha H1 e _ fun H2 e2 => hb H2 (e.trans e2) _ fun p ys H3 hp3 e3 h3 hn k3 => ⟨l, p, xs, ys, rfl, rfl, e3 _ _ (e2 _ _ (e _ _ hl)), h3, sz_of (by omega), fun r hr =>
    q r (xs ++ ys) _ (fresh_back (e2.trans e3) hr) ((e2.trans e3).trans (Ex.new hr)) upd_same (by rw [List.length_append]; omega) fun v hv => by
      rcases List.mem_append.mp hv with h | h
      · exact (hx.up (((e.trans e2).trans e3).trans (Ex.new hr))) v h
      · exact (k3.up (Ex.new hr)) v h⟩
theorem q_asgB {tz : TS} {D : Ends} {i : Nat} {m : Int} {n : Nat} (h : EvB K d g m n te σ H) (k : ∀ p vs H1, H p = none → Ex H H1 → H1 p = some (.lst vs) → vs.length = n → BadAll K d g m H1 vs → tz D (σ.set i (some (.ref p))) H1) : tSeq (tAsg te (gName i)) tz D σ H :=
  h H (Ex.refl H) _ fun p vs H1 h0 e h1 h2 h3 => k p vs H1 h0 e h1 h2 h3
end
section
variable {P : Program} {w : World} {K : PySem.W.Frag} {mg : Str → Option Value} {base : Heap}
def spNoPl (K : PySem.W.Frag) : Sp := fun vs H Q _ => ∃ (d g c : Addr) (s : Src) (m : Nat), vs = [.ref d, .int (m : Int)] ∧ 1 ≤ m ∧ m ≤ 24 ∧ StX H d g c s ∧ 0 ≤ s.turn ∧ s.turn < 2 ^ 899 ∧
  ∀ (H' : Hp) (s' : Src) (x : V) (o : Option (List (Option (List V)))), StX H' d g c s' → s'.cs = s.cs → s.turn ≤ s'.turn → s'.turn ≤ s.turn + 1 → Kp d g H H' → ArC K d g H' x o → okAll (m : Int) o = false → Q x H'
theorem scNpl : FnScope ["state", "many", "good", "some"] ["state", "many"] (defScope s_law_st_no_places) := ⟨rfl, rfl, rfl, by decide +kernel, rfl, by decide +kernel, by decide +kernel⟩
theorem ok_noPl {f fD fB fP : Addr} {fd fdD fdB fdP : FuncData} (F : Fun K "_law_st_no_places" "_law_st_no_places" s_law_st_no_places f fd) (B : DrB mg) (M : MxB mg) (FB : Fun K "_law_blended" "_law_blended" sBlended fB fdB) (mgB : mg "_law_blended" = some (.ref fB))
    (FD : Fun K "_law_draw" "_law_draw" sDraw fD fdD) (mgD : mg "_law_draw" = some (.ref fD)) (FP : Fun K "_law_pick" "_law_pick" sPick fP fdP) (mgP : mg "_law_pick" = some (.ref fP)) : FnOk P w K mg base CX0 4 f fd ["state", "many"] (spNoPl K) := by
  have GP : FnOk P w K mg base CX0 3 fP fdP ["state", "several"] spPick := ok_pick FP B FB mgB FD mgD
  have bP : Binds K fdP ["state", "several"] [] := FP.binds (ps := ["state", "several"]) fun _ _ _ _ _ _ us hl => match us, hl with | [_, _], _ => rfl
  refine F.ok scNpl (fun vs H Q E h => ?_) (fun cdv A outer s H vs Q E hr h => ?_)
  · obtain ⟨d, g, c, s0, m, rfl, _⟩ := h
    rfl
  · obtain ⟨d, g, c, s0, m, rfl, m1, m2, hst, t0, t1, k⟩ := h
    refine ⟨_, pss_cons (ps_set (i := 2) scNpl.nd rfl (Or.inl rfl) (pe_op op_repT0 (pe_tup (pa_cons (pe_tup (pa_cons pe_int (pa_cons pe_int pa_nil))) pa_nil)) (pe_op op_sub (pv 1) pe_int)))
      (pss_cons (ps_set (i := 3) scNpl.nd rfl (Or.inl rfl) (pe_lst (pa_cons pe_non (pa_cons pe_int (pa_cons (pv 2)
        (pa_cons (pe_op op_catA (pv 2) (pe_tup (pa_cons (pe_tup (pa_cons pe_int (pa_cons pe_int pa_nil))) (pa_cons (pe_tup (pa_cons pe_int (pa_cons pe_int pa_nil))) pa_nil))))
        (pa_cons (pe_callTy call_list_of (by rfl) M.list (by decide +kernel) (pa_cons (pe_op op_catA (pv 2) (pe_tup (pa_cons (pe_tup (pa_cons pe_int (pa_cons pe_int pa_nil))) pa_nil))) pa_nil))
        (pa_cons (pe_op op_catA (pv 2) (pe_tup (pa_cons (pe_tup (pa_cons pe_int pa_nil)) pa_nil)))
        (pa_cons (pe_op op_catA (pv 2) (pe_tup (pa_cons (pe_tup (pa_cons pe_int (pa_cons pe_int (pa_cons pe_int pa_nil)))) pa_nil)))
        (pa_cons (pe_op op_catA (pv 2) (pe_tup (pa_cons (pe_lst (pa_cons pe_int (pa_cons pe_int pa_nil))) pa_nil))) pa_nil))))))))))
      (pss_one (ps_ret (pe_call GP hr (by rfl) mgP FP.kp bP .nil pass0 (pa_cons (pv 0) (pa_cons (pe_op op_cat (pv 3) (pe_lst
        (pa_cons (pe_op op_catA (pv 2) (pe_tup (pa_cons (pe_tup (pa_cons pe_bl (pa_cons pe_int pa_nil))) pa_nil)))
        (pa_cons (pe_op op_catA (pv 2) (pe_tup (pa_cons (pe_tup (pa_cons pe_int (pa_cons pe_int pa_nil))) pa_nil)))
        (pa_cons (pe_op op_catA (pv 2) (pe_tup (pa_cons (pe_tup (pa_cons (pe_un un_neg pe_int) (pa_cons pe_int pa_nil))) pa_nil)))
        (pa_cons (pe_op op_catA (pv 2) (pe_tup (pa_cons (pe_tup (pa_cons pe_non (pa_cons pe_int pa_nil))) pa_nil)))
        (pa_cons (pe_op op_catA (pv 2) (pe_tup (pa_cons pe_int pa_nil))) pa_nil))))))) pa_nil)))))), ?_⟩
    have od : ∃ o, H d = some o := ⟨_, hst.1⟩
    have og : ∃ o, H g = some o := ⟨_, hst.2.1⟩
    have pair0 : ∀ (σ : L2.St) (H1 : Hp), EvI K d g (tTup (tCons (tC (.int 0)) (tCons (tC (.int 0)) tNil))) σ H1 (some [.int 0, .int 0]) := fun σ H1 => ei_tup (ea_cons ev_c (ea_cons ev_c ea_nil)) (fun y hy => by simp at hy; rw [hy]; rfl) (by show 2 ≤ 100; decide)
    refine q_asgG (os := List.replicate (m - 1) (some [.int 0, .int 0])) (eg_rep (pair0 _ _) (ev_is (ev_op (ev_var rfl) ev_c rv_I0) (congrArg V.int (by omega))) (by omega)) fun G xs H1 e1 hG hxs => ?_
    have st1 := hst.up e1
    have od1 : ∃ o, H1 d = some o := ⟨_, st1.1⟩
    have og1 : ∃ o, H1 g = some o := ⟨_, st1.2.1⟩
    let os : List (Option (List V)) := List.replicate (m - 1) (some [.int 0, .int 0])
    have ol : os.length = m - 1 := List.length_replicate
    have good : ∀ (σ : L2.St) (H2 : Hp), Ex H1 H2 → σ[2]? = some (some (.ref G)) → EvG K d g (tVar 2) σ H2 os := fun σ H2 e2 h2 => eg_var h2 (ex_t e2 hG) (hxs.up e2)
    have cat1 : ∀ (σ : L2.St) (H2 : Hp) {ti : TE} {o : Option (List V)}, Ex H1 H2 → σ[2]? = some (some (.ref G)) → EvI K d g ti σ H2 o → EvG K d g (tOp (rCatA K) (tVar 2) (tTup (tCons ti tNil))) σ H2 (os ++ [o]) := fun σ H2 ti o e2 h2 hi =>
      eg_cat (good σ H2 e2 h2) (eg_tup (eai_cons hi eai_nil) (by show 1 ≤ 100; decide)) (by rw [ol]; show _ + 1 ≤ 100; omega)
    have bad1 : ∀ (σ : L2.St) (H2 : Hp) {ti : TE} {o : Option (List V)}, Ex H1 H2 → σ[2]? = some (some (.ref G)) → EvI K d g ti σ H2 o → EvC K d g (tOp (rCatA K) (tVar 2) (tTup (tCons ti tNil))) σ H2 (some (os ++ [o])) := fun σ H2 ti o e2 h2 hi =>
      ec_g (cat1 σ H2 e2 h2 hi) (by rw [List.length_append, ol]; show _ + 1 ≤ 100; omega)
    have L1 := eb_cons (K := K) (d := d) (g := g) (H := H1) (σ := [some (.ref d), some (.int (m : Int)), some (.ref G), none]) (m := (m : Int)) ec_non rfl (eb_cons (ec_int (i := 0)) rfl (eb_cons (ec_g (good _ _ (Ex.refl _) rfl) (by rw [ol]; omega)) (okAll_len (by rw [ol]; omega))
      (eb_cons (ec_g (eg_cat (good _ _ (Ex.refl _) rfl) (eg_tup (eai_cons (pair0 _ _) (eai_cons (pair0 _ _) eai_nil)) (by show 2 ≤ 100; decide)) (by rw [ol]; show _ + 2 ≤ 100; omega)) (by rw [List.length_append, ol]; show _ + 2 ≤ 100; omega)) (okAll_len (by rw [List.length_append, ol]; show ((m - 1 + 2 : Nat) : Int) ≠ _; omega))
      (eb_cons (ec_list od1 og1 (cat1 _ _ (Ex.refl _) rfl (pair0 _ _))) rfl
      (eb_cons (bad1 _ _ (Ex.refl _) rfl (ei_tup (ys := [.int 0]) (ea_cons ev_c ea_nil) (fun y hy => by simp at hy; rw [hy]; rfl) (by show 1 ≤ 100; decide))) (okAll_bad rfl)
      (eb_cons (bad1 _ _ (Ex.refl _) rfl (ei_tup (ys := [.int 0, .int 0, .int 0]) (ea_cons ev_c (ea_cons ev_c (ea_cons ev_c ea_nil))) (fun y hy => by simp at hy; rw [hy]; rfl) (by show 3 ≤ 100; decide))) (okAll_bad rfl)
      (eb_cons (bad1 _ _ (Ex.refl _) rfl (ei_lst od1 og1 (ys := [.int 0, .int 0]) (ea_cons ev_c (ea_cons ev_c ea_nil)) (by show 2 ≤ 100; decide))) (okAll_bad rfl) eb_nil)))))))
    refine q_asgB (evb_lst L1 (by decide)) fun p vs H3 hpN e13 hp3 hn hbad => ?_
    have L2 := eb_cons (K := K) (d := d) (g := g) (H := H3) (σ := [some (.ref d), some (.int (m : Int)), some (.ref G), some (.ref p)]) (m := (m : Int)) (bad1 _ _ e13 rfl (ei_tup (ys := [.bl true, .int 0]) (ea_cons ev_c (ea_cons ev_c ea_nil)) (fun y hy => by simp at hy; rcases hy with h | h <;> rw [h] <;> rfl) (by show 2 ≤ 100; decide))) (okAll_bad rfl)
      (eb_cons (bad1 _ _ e13 rfl (ei_tup (ys := [.int 0, .int 1000001]) (ea_cons ev_c (ea_cons ev_c ea_nil)) (fun y hy => by simp at hy; rcases hy with h | h <;> rw [h] <;> rfl) (by show 2 ≤ 100; decide))) (okAll_bad (by decide +kernel))
      (eb_cons (bad1 _ _ e13 rfl (ei_tup (ys := [.int (-1000001), .int 0]) (ea_cons (ev_un ev_c ru_neg) (ea_cons ev_c ea_nil)) (fun y hy => by simp at hy; rcases hy with h | h <;> rw [h] <;> rfl) (by show 2 ≤ 100; decide))) (okAll_bad (by decide +kernel))
      (eb_cons (bad1 _ _ e13 rfl (ei_tup (ys := [.non, .int 0]) (ea_cons ev_c (ea_cons ev_c ea_nil)) (fun y hy => by simp at hy; rcases hy with h | h <;> rw [h] <;> rfl) (by show 2 ≤ 100; decide))) (okAll_bad (by decide +kernel))
      (eb_cons (bad1 _ _ e13 rfl (ei_int (i := 5))) (okAll_bad rfl) eb_nil))))
    refine ⟨_, rfl, evb_cat (ev_var rfl) hp3 hbad hn (evb_lst L2 (by decide)) (by decide) H3 (Ex.refl _) _ fun r ws H6 hr e36 h6 hlen hb6 => ?_⟩
    have e16 := e13.trans e36
    have nr : r ≠ g := fun z => by rw [z, e13 _ _ st1.2.1] at hr; cases hr
    refine ⟨d, g, c, r, s0, ws, rfl, st1.up e16, t0, by omega, h6, nr, by omega, by omega, fun H7 x st7 k7 hx => ?_⟩
    obtain ⟨n1, n2⟩ := next_turn s0 ws.length
    have hb := hb6 x (List.mem_of_getElem? hx)
    obtain ⟨o, h1, h2⟩ := hb
    exact k H7 _ x o st7 (next_cs _ _) n1 n2 ((Kp.of (e1.trans e16)).trans k7) (h1.kp (st1.up e16) k7) h2
end
end My
/-! _law_nt_no_net -/
namespace My
open PySem PySem.Spec PyProof.Rows L2 Evl
section
variable {P : Program} {w : World} {K : PySem.W.Frag} {mg : Str → Option Value} {base : Heap}
def spNoNet (K : PySem.W.Frag) (C : Addr) : Sp := fun vs H Q _ => ∃ (d g c : Addr) (s : Src), vs = [.ref d] ∧ StX H d g c s ∧ 0 ≤ s.turn ∧ s.turn < 2 ^ 899 ∧
  ∀ (H' : Hp) (s' : Src) (x : V), StX H' d g c s' → s'.cs = s.cs → s.turn ≤ s'.turn → s'.turn ≤ s.turn + 1 → Kp d g H H' → (∀ H2, Ex H' H2 → NoInst K C H2 x) → Q x H'
theorem scNn : FnScope ["state"] ["state"] (defScope s_law_nt_no_net) := ⟨rfl, rfl, rfl, by decide +kernel, rfl, by decide +kernel, by decide +kernel⟩
theorem ok_noNet {f fD fB fP C : Addr} {fd fdD fdB fdP : FuncData} (F : Fun K "_law_nt_no_net" "_law_nt_no_net" s_law_nt_no_net f fd) (B : DrB mg) (N : NoB K C = true) (FB : Fun K "_law_blended" "_law_blended" sBlended fB fdB) (mgB : mg "_law_blended" = some (.ref fB))
    (FD : Fun K "_law_draw" "_law_draw" sDraw fD fdD) (mgD : mg "_law_draw" = some (.ref fD)) (FP : Fun K "_law_pick" "_law_pick" sPick fP fdP) (mgP : mg "_law_pick" = some (.ref fP)) : FnOk P w K mg base CX0 4 f fd ["state"] (spNoNet K C) := by
  have GP : FnOk P w K mg base CX0 3 fP fdP ["state", "several"] spPick := ok_pick FP B FB mgB FD mgD
  have bP : Binds K fdP ["state", "several"] [] := FP.binds (ps := ["state", "several"]) fun _ _ _ _ _ _ us hl => match us, hl with | [_, _], _ => rfl
  refine F.ok scNn (fun vs H Q E h => ?_) (fun cdv A outer s H vs Q E hr h => ?_)
  · obtain ⟨d, g, c, s0, rfl, _⟩ := h
    rfl
  · obtain ⟨d, g, c, s0, rfl, hst, t0, t1, k⟩ := h
    refine ⟨_, pss_one (ps_ret (pe_call GP hr (by rfl) mgP FP.kp bP .nil pass0 (pa_cons (pv 0) (pa_cons (pe_lst (pa_cons pe_non (pa_cons pe_int (pa_cons pe_bl (pa_cons (pe_tup pa_nil) (pa_cons (pe_lst pa_nil) (pa_cons pe_dnewK (pa_cons pe_str (pa_cons (pe_tup (pa_cons pe_int (pa_cons (pe_tup pa_nil) pa_nil))) (pa_cons (pe_op op_pow pe_int pe_int) pa_nil)))))))))) pa_nil)))), ?_⟩
    refine ⟨_, rfl, by show 0 ≤ sizeLine; decide, fun p1 hp1 => ⟨by show 0 ≤ sizeLine; decide, fun l1 hl1 => fun d1 hd1 => ⟨by show 0 ≤ sizeLine; decide, fun p2 hp2 => ⟨by show 2 ≤ sizeLine; decide, fun p3 hp3 => ⟨_, _, rfl, rfl, ⟨by decide, by decide, by decide⟩, by show 9 ≤ sizeLine; decide, fun L hL => ?_⟩⟩⟩⟩⟩
    have e1 : Ex H (upd H p1 (.tup [])) := Ex.new hp1
    have h1 : upd H p1 (.tup []) p1 = some (.tup []) := upd_same
    generalize upd H p1 (.tup []) = H1 at e1 h1 hl1 hd1 hp2 hp3 hL ⊢
    have e2 : Ex H1 (upd H1 l1 (.lst [])) := Ex.new hl1
    have h2 : upd H1 l1 (.lst []) l1 = some (.lst []) := upd_same
    generalize upd H1 l1 (.lst []) = H2 at e2 h2 hd1 hp2 hp3 hL ⊢
    have e3 : Ex H2 (upd H2 d1 (.dK [])) := Ex.new hd1
    have h3 : upd H2 d1 (.dK []) d1 = some (.dK []) := upd_same
    generalize upd H2 d1 (.dK []) = H3 at e3 h3 hp2 hp3 hL ⊢
    have e4 : Ex H3 (upd H3 p2 (.tup [])) := Ex.new hp2
    generalize upd H3 p2 (.tup []) = H4 at e4 hp3 hL ⊢
    have e5 : Ex H4 (upd H4 p3 (.tup [.int 3, .ref p2])) := Ex.new hp3
    have h5 : upd H4 p3 (.tup [.int 3, .ref p2]) p3 = some (.tup [.int 3, .ref p2]) := upd_same
    generalize upd H4 p3 (.tup [.int 3, .ref p2]) = H5 at e5 h5 hL ⊢
    have e6 : Ex H5 (upd H5 L (.lst [.non, .int 0, .bl true, .ref p1, .ref l1, .ref d1, .str "net", .ref p3, .int (10 ^ 18)])) := Ex.new hL
    have h6 : upd H5 L (.lst [.non, .int 0, .bl true, .ref p1, .ref l1, .ref d1, .str "net", .ref p3, .int (10 ^ 18)]) L = some (.lst [.non, .int 0, .bl true, .ref p1, .ref l1, .ref d1, .str "net", .ref p3, .int (10 ^ 18)]) := upd_same
    have g1 := e1
    have eH5 : Ex H H5 := (((e1.trans e2).trans e3).trans e4).trans e5
    have nL : L ≠ g := fun z => by rw [z, eH5 _ _ hst.2.1] at hL; cases hL
    have q1 := (((e2.trans e3).trans e4).trans e5).trans e6 _ _ h1
    have q2 := ((e3.trans e4).trans e5).trans e6 _ _ h2
    have q3 := (e4.trans e5).trans e6 _ _ h3
    have q5 := e6 _ _ h5
    have eH6 := eH5.trans e6
    have st6 := hst.up eH6
    have nl1 : l1 ≠ d := fun z => by rw [z, e1 _ _ hst.1] at hl1; cases hl1
    have nl2 : l1 ≠ g := fun z => by rw [z, e1 _ _ hst.2.1] at hl1; cases hl1
    have nd1 : d1 ≠ d := fun z => by rw [z, (e1.trans e2) _ _ hst.1] at hd1; cases hd1
    have nd2 : d1 ≠ g := fun z => by rw [z, (e1.trans e2) _ _ hst.2.1] at hd1; cases hd1
    refine ⟨d, g, c, L, s0, _, rfl, st6, t0, by omega, h6, nL, Nat.succ_pos _, (show 9 < 1000000 by decide), fun H7 x st7 k7 hx => ?_⟩
    obtain ⟨n1, n2⟩ := next_turn s0 9
    refine k H7 _ x st7 (next_cs _ _) n1 n2 ((Kp.of eH6).trans k7) fun H8 e8 => ?_
    have m1 := List.mem_of_getElem? hx
    simp only [List.mem_cons, List.not_mem_nil, or_false] at m1
    rcases m1 with rfl | rfl | rfl | rfl | rfl | rfl | rfl | rfl | rfl
    · exact ⟨_, .base .non, NoB.ans N (by decide)⟩
    · exact ⟨_, .base (.int _), NoB.ans N (by decide)⟩
    · exact ⟨_, .base (.bl _), NoB.ans N (by decide)⟩
    · exact ⟨_, .base (.tup (e8 _ _ (k7.tup st6 q1))), NoB.ans N (by decide)⟩
    · exact ⟨_, .base (.lst (e8 _ _ (k7 _ _ nl1 nl2 q2))), NoB.ans N (by decide)⟩
    · exact ⟨_, .base (.dK (e8 _ _ (k7 _ _ nd1 nd2 q3))), NoB.ans N (by decide)⟩
    · exact ⟨_, .base (.str _), NoB.ans N (by decide)⟩
    · exact ⟨_, .base (.tup (e8 _ _ (k7.tup st6 q5))), NoB.ans N (by decide)⟩
    · exact ⟨_, .base (.int _), NoB.ans N (by decide)⟩
end
end My
/-! what is no net, whatever comes -/
namespace My
open PySem PySem.Spec PyProof.Rows L2 Evl Kpt LamX
section
variable {P : Program} {w : World} {K : PySem.W.Frag} {mg : Str → Option Value} {base : Heap}
def spNoNet2 (K : PySem.W.Frag) (C : Addr) : Sp := fun vs H Q _ => ∃ (d g c : Addr) (s : Src), vs = [.ref d] ∧ StX H d g c s ∧ 0 ≤ s.turn ∧ s.turn < 2 ^ 899 ∧
  ∀ (H' : Hp) (s' : Src) (x : V), StX H' d g c s' → s'.cs = s.cs → s.turn ≤ s'.turn → s'.turn ≤ s.turn + 1 → Kp d g H H' → (∀ H2, Kx d g H' H2 → NoInst K C H2 x) → Q x H'
theorem scNn2 : FnScope ["state"] ["state"] (defScope s_law_nt_no_net) := ⟨rfl, rfl, rfl, by decide +kernel, rfl, by decide +kernel, by decide +kernel⟩
theorem ok_noNet2 {f fD fB fP C : Addr} {fd fdD fdB fdP : FuncData} (F : Fun K "_law_nt_no_net" "_law_nt_no_net" s_law_nt_no_net f fd) (B : DrB mg) (N : NoB K C = true) (FB : Fun K "_law_blended" "_law_blended" sBlended fB fdB) (mgB : mg "_law_blended" = some (.ref fB))
    (FD : Fun K "_law_draw" "_law_draw" sDraw fD fdD) (mgD : mg "_law_draw" = some (.ref fD)) (FP : Fun K "_law_pick" "_law_pick" sPick fP fdP) (mgP : mg "_law_pick" = some (.ref fP)) : FnOk P w K mg base CX0 4 f fd ["state"] (spNoNet2 K C) := by
  have GP : FnOk P w K mg base CX0 3 fP fdP ["state", "several"] spPick := ok_pick FP B FB mgB FD mgD
  have bP : Binds K fdP ["state", "several"] [] := FP.binds (ps := ["state", "several"]) fun _ _ _ _ _ _ us hl => match us, hl with | [_, _], _ => rfl
  refine F.ok scNn2 (fun vs H Q E h => ?_) (fun cdv A outer s H vs Q E hr h => ?_)
  · obtain ⟨d, g, c, s0, rfl, _⟩ := h
    rfl
  · obtain ⟨d, g, c, s0, rfl, hst, t0, t1, k⟩ := h
    refine ⟨_, pss_one (ps_ret (pe_call GP hr (by rfl) mgP FP.kp bP .nil pass0 (pa_cons (pv 0) (pa_cons (pe_lst (pa_cons pe_non (pa_cons pe_int (pa_cons pe_bl (pa_cons (pe_tup pa_nil) (pa_cons (pe_lst pa_nil) (pa_cons pe_dnewK (pa_cons pe_str (pa_cons (pe_tup (pa_cons pe_int (pa_cons (pe_tup pa_nil) pa_nil))) (pa_cons (pe_op op_pow pe_int pe_int) pa_nil)))))))))) pa_nil)))), ?_⟩
    refine ⟨_, rfl, by show 0 ≤ sizeLine; decide, fun p1 hp1 => ⟨by show 0 ≤ sizeLine; decide, fun l1 hl1 => fun d1 hd1 => ⟨by show 0 ≤ sizeLine; decide, fun p2 hp2 => ⟨by show 2 ≤ sizeLine; decide, fun p3 hp3 => ⟨_, _, rfl, rfl, ⟨by decide, by decide, by decide⟩, by show 9 ≤ sizeLine; decide, fun L hL => ?_⟩⟩⟩⟩⟩
    have e1 : Ex H (upd H p1 (.tup [])) := Ex.new hp1
    have h1 : upd H p1 (.tup []) p1 = some (.tup []) := upd_same
    generalize upd H p1 (.tup []) = H1 at e1 h1 hl1 hd1 hp2 hp3 hL ⊢
    have e2 : Ex H1 (upd H1 l1 (.lst [])) := Ex.new hl1
    have h2 : upd H1 l1 (.lst []) l1 = some (.lst []) := upd_same
    generalize upd H1 l1 (.lst []) = H2 at e2 h2 hd1 hp2 hp3 hL ⊢
    have e3 : Ex H2 (upd H2 d1 (.dK [])) := Ex.new hd1
    have h3 : upd H2 d1 (.dK []) d1 = some (.dK []) := upd_same
    generalize upd H2 d1 (.dK []) = H3 at e3 h3 hp2 hp3 hL ⊢
    have e4 : Ex H3 (upd H3 p2 (.tup [])) := Ex.new hp2
    generalize upd H3 p2 (.tup []) = H4 at e4 hp3 hL ⊢
    have e5 : Ex H4 (upd H4 p3 (.tup [.int 3, .ref p2])) := Ex.new hp3
    have h5 : upd H4 p3 (.tup [.int 3, .ref p2]) p3 = some (.tup [.int 3, .ref p2]) := upd_same
    generalize upd H4 p3 (.tup [.int 3, .ref p2]) = H5 at e5 h5 hL ⊢
    have e6 : Ex H5 (upd H5 L (.lst [.non, .int 0, .bl true, .ref p1, .ref l1, .ref d1, .str "net", .ref p3, .int (10 ^ 18)])) := Ex.new hL
    have h6 : upd H5 L (.lst [.non, .int 0, .bl true, .ref p1, .ref l1, .ref d1, .str "net", .ref p3, .int (10 ^ 18)]) L = some (.lst [.non, .int 0, .bl true, .ref p1, .ref l1, .ref d1, .str "net", .ref p3, .int (10 ^ 18)]) := upd_same
    have g1 := e1
    have eH5 : Ex H H5 := (((e1.trans e2).trans e3).trans e4).trans e5
    have nL : L ≠ g := fun z => by rw [z, eH5 _ _ hst.2.1] at hL; cases hL
    have q1 := (((e2.trans e3).trans e4).trans e5).trans e6 _ _ h1
    have q2 := ((e3.trans e4).trans e5).trans e6 _ _ h2
    have q3 := (e4.trans e5).trans e6 _ _ h3
    have q5 := e6 _ _ h5
    have eH6 := eH5.trans e6
    have st6 := hst.up eH6
    have nl1 : l1 ≠ d := fun z => by rw [z, e1 _ _ hst.1] at hl1; cases hl1
    have nl2 : l1 ≠ g := fun z => by rw [z, e1 _ _ hst.2.1] at hl1; cases hl1
    have nd1 : d1 ≠ d := fun z => by rw [z, (e1.trans e2) _ _ hst.1] at hd1; cases hd1
    have nd2 : d1 ≠ g := fun z => by rw [z, (e1.trans e2) _ _ hst.2.1] at hd1; cases hd1
    refine ⟨d, g, c, L, s0, _, rfl, st6, t0, by omega, h6, nL, Nat.succ_pos _, (show 9 < 1000000 by decide), fun H7 x st7 k7 hx => ?_⟩
    obtain ⟨n1, n2⟩ := next_turn s0 9
    refine k H7 _ x st7 (next_cs _ _) n1 n2 ((Kp.of eH6).trans k7) fun H8 x8 => ?_
    have m1 := List.mem_of_getElem? hx
    have k78 : Kx d g _ H8 := (Kx.kp k7).trans x8
    simp only [List.mem_cons, List.not_mem_nil, or_false] at m1
    rcases m1 with rfl | rfl | rfl | rfl | rfl | rfl | rfl | rfl | rfl
    · exact ⟨_, .base .non, NoB.ans N (by decide)⟩
    · exact ⟨_, .base (.int _), NoB.ans N (by decide)⟩
    · exact ⟨_, .base (.bl _), NoB.ans N (by decide)⟩
    · exact ⟨_, .base (.tup (k78.tup st6 q1)), NoB.ans N (by decide)⟩
    · exact ⟨_, .base (.lst (k78 _ _ nl1 nl2 lst_nt q2)), NoB.ans N (by decide)⟩
    · exact ⟨_, .base (.dK (k78 _ _ nd1 nd2 (fun _ z => by cases z) q3)), NoB.ans N (by decide)⟩
    · exact ⟨_, .base (.str _), NoB.ans N (by decide)⟩
    · exact ⟨_, .base (.tup (k78.tup st6 q5)), NoB.ans N (by decide)⟩
    · exact ⟨_, .base (.int _), NoB.ans N (by decide)⟩
end
end My
/-! the law of k90: slots, scope -/
namespace My
open PySem PySem.Spec PyProof.Rows L2 Evl Kpt LamX LamW TL
abbrev nL90 : List Str := ["script", "state", "turn", "many", "net", "places_here", "point", "lines", "across", "up", "text", "lap", "at", "way", "words_here", "spot", "odd", "some", "near", "box", "due", "caught", "ask"]
theorem scL90 : FnScope nL90 ["script"] (defScope s_law) := ⟨rfl, rfl, rfl, by decide +kernel, rfl, by decide +kernel, by decide +kernel⟩
theorem boot_rep9 : bootBuiltins "repr" = some (.builtin "repr") := by decide +kernel
theorem boot_lst9 : bootBuiltins "list" = some (.type "list") := by decide +kernel
def spLaw90 (K : PySem.W.Frag) (PT : Addr) : Sp := fun vs H Q _ => ∃ (a : Addr) (ns : List Int), vs = [.ref a] ∧ SqL K H a (ns.map V.int) ∧ ns.length ≤ 63 ∧ H PT = some (.tbl #[]) ∧ ∀ H', Q (.bl true) H'
end My
namespace My
open PySem PySem.Spec PyProof.Rows L2 Evl
section
variable {K : PySem.W.Frag} {C : Addr} {σ : L2.St} {H : Hp} {te ta tb : TE} {ks ls : List (Int × Int)}
/-! ### a new net -/
def EvNt (K : PySem.W.Frag) (C : Addr) (te : TE) (σ : L2.St) (H : Hp) (m : Int) (ks : List (Int × Int)) : Prop := ∀ H1, Ex H H1 → ∀ Q : VK, (∀ y H2, Ex H1 H2 → NetV K C H2 y m ks → Q y H2) → te σ H1 Q
theorem ent_make {C : Addr} {m : Int} {E : XK} (h : Ev ta σ H (.int m)) (h2 : EvQ K tb σ H ks) (ok : OkNet m ks) : EvNt K C (tMake C (spNetI K C) [] E (tCons ta (tCons tb tNil))) σ H m ks := fun H1 e Q q =>
  h H1 e _ fun H2 e2 => h2 H2 (e.trans e2) _ fun a xs H3 e3 sa ka => fun sN dx hsN hdx ne => by
    have e4 : Ex H3 (upd (upd H3 dx (.own sN)) sN (.ins C dx [])) := (Ex.new hdx).trans (Ex.new ((upd_ne ne.symm).trans hsN))
    refine ⟨sN, dx, a, m, xs, ks, rfl, upd_same, ex_t e4 sa, ka.up e4, ok, fun H9 hk9 hN9 => ⟨rfl, ?_⟩⟩
    have e9 : Ex H3 H9 := fun b o hb => hk9 b o (ne_of_none hb hsN) (e4 _ _ hb)
    exact q _ H9 ((e2.trans e3).trans e9) ⟨sN, dx, a, xs, rfl, hN9, ex_t e9 sa, ka.up e9⟩
theorem ent_var {i : Nat} {x : V} {m : Int} {ks : List (Int × Int)} (h : σ[i]? = some (some x)) (hN : NetV K C H x m ks) : EvNt K C (tVar i) σ H m ks := fun H1 e Q q => ⟨x, h, q x H1 (Ex.refl _) (hN.up e)⟩
theorem ent_is {m : Int} {ks ls : List (Int × Int)} (h : EvNt K C te σ H m ks) (e : ks = ls) : EvNt K C te σ H m ls := e ▸ h
theorem EvNt.mono {H' : Hp} {m : Int} {ks : List (Int × Int)} (e : Ex H H') (h : EvNt K C te σ H m ks) : EvNt K C te σ H' m ks := fun H1 e1 Q q => h H1 (e.trans e1) Q q
theorem q_asgNt {i : Nat} {m : Int} {ks : List (Int × Int)} {tz : TS} {D : Ends} (h : EvNt K C te σ H m ks) (k : ∀ y H1, Ex H H1 → NetV K C H1 y m ks → tz D (σ.set i (some y)) H1) : tSeq (tAsg te (gName i)) tz D σ H := h H (Ex.refl _) _ fun y H1 e hy => k y H1 e hy
end
end My
/-! words for the law of k90: draws -/
namespace My
open PySem PySem.Spec PyProof.Rows L2 Evl Kpt LamX LamW TL
section
variable {K : PySem.W.Frag} {D : DA} {σ : L2.St} {H : Hp} {te ta tb : TE} {n m : Nat} {a b c e : Int}
theorem ex_addI (ha : EvX K D ta σ H n (PInt a b)) (hb : EvX K D tb σ H m (PInt c e)) : EvX K D (tOp (rI0 fun i j => .int (i + j)) ta tb) σ H (n + m) (PInt (a + c) (b + e - 1)) :=
  ex_op ha hb fun x y p q B hx hy hp hq => by
    obtain ⟨i, rfl, i0, i1⟩ := hp
    obtain ⟨j, rfl, j0, j1⟩ := hq
    rw [hx.int_eq, hy.int_eq]
    exact ⟨.int (i + j), ed_int (ev_op ev_c ev_c rv_I0), i + j, rfl, by omega, by omega⟩
theorem ex_subI (ha : EvX K D ta σ H n (PInt a b)) (hb : EvX K D tb σ H m (PInt c e)) : EvX K D (tOp (rI0 fun i j => .int (i - j)) ta tb) σ H (n + m) (PInt (a - e + 1) (b - c)) :=
  ex_op ha hb fun x y p q B hx hy hp hq => by
    obtain ⟨i, rfl, i0, i1⟩ := hp
    obtain ⟨j, rfl, j0, j1⟩ := hq
    rw [hx.int_eq, hy.int_eq]
    exact ⟨.int (i - j), ed_int (ev_op ev_c ev_c rv_I0), i - j, rfl, by omega, by omega⟩
theorem ex_cI {i : Int} : EvX K D (tC (.int i)) σ H 0 (PInt i (i + 1)) := ex_int (ed_int ev_c) ⟨Int.le_refl _, by omega⟩
theorem ex_many {E1 E2 : XK} (h1 : σ[1]? = some (some (.ref D.d))) : EvX K D (tOp (rI0 fun i j => .int (i + j)) (tC (.int 1)) (tCall spDraw [] E1 (tCons (tVar 1) (tCons (tCall spPick [] E2 (tCons (tVar 1) (tCons (tLst (tCons (tC (.int 2)) (tCons (tC (.int 6)) (tCons (tC (.int 24)) tNil)))) tNil))) tNil)))) σ H 10 (PInt 1 25) := by
  have hp : EvX K D (tCall spPick [] E2 (tCons (tVar 1) (tCons (tLst (tCons (tC (.int 2)) (tCons (tC (.int 6)) (tCons (tC (.int 24)) tNil)))) tNil))) σ H (0 + 1) (PInt 1 (24 + 1)) :=
    (ex_pick (K := K) (D := D) (n := 0) (i := 1) (L := fun ds => ds = [.int 2, .int 6, .int 24]) h1 (el_N (en_D (en_lst (K := K) (ds := [.int 2, .int 6, .int 24]) (ead_cons (ed_int ev_c) (ead_cons (ed_int ev_c) (ead_cons (ed_int ev_c) ead_nil))) (by show 3 ≤ 100000; decide)))) (fun ds e => by subst e; exact ⟨by show 0 < 3; decide, by show 3 < 1000000; decide⟩)).mono (Nat.le_refl _) fun dd ⟨ds, e, hd⟩ => by
      subst e
      have : dd = .int 2 ∨ dd = .int 6 ∨ dd = .int 24 := by simpa using hd
      rcases this with rfl | rfl | rfl
      · exact ⟨2, rfl, by decide, by decide⟩
      · exact ⟨6, rfl, by decide, by decide⟩
      · exact ⟨24, rfl, by decide, by decide⟩
  exact (ex_addI (a := 1) (b := 2) ex_cI (ex_draw (z := 24) (i := 1) h1 hp (by decide))).mono (by decide) fun dd ⟨j, e, h0, h1⟩ => ⟨j, e, by omega, by omega⟩
def NearD (dd : PyData) : Prop := ∃ p : Int × Int, dd = prD p ∧ Near p
theorem ev_pow6 {H : Hp} : Ev (tOp (rI CPow fun i j => .int (i ^ j.toNat)) (tC (.int 10)) (tC (.int 6))) σ H (.int 1000000) := ev_is (ev_op ev_c ev_c (rv_I ⟨by decide, by decide, by decide⟩)) (by decide +kernel)
theorem ex_place {E1 E2 E3 : XK} (h1 : σ[1]? = some (some (.ref D.d))) : EvX K D (tTup (tCons (tCall spPick [] E1 (tCons (tVar 1) (tCons (tLst (tCons (tC (.int 0)) (tCons (tOp (rI CPow fun i j => .int (i ^ j.toNat)) (tC (.int 10)) (tC (.int 6))) (tCons (tUn (rU fun i => .int (-i)) (tOp (rI CPow fun i j => .int (i ^ j.toNat)) (tC (.int 10)) (tC (.int 6))))
      (tCons (tOp (rI0 fun i j => .int (i - j)) (tCall spDraw [] E2 (tCons (tVar 1) (tCons (tC (.int 99)) tNil))) (tC (.int 49))) tNil))))) tNil))) (tCons (tOp (rI0 fun i j => .int (i - j)) (tCall spDraw [] E3 (tCons (tVar 1) (tCons (tC (.int 2000001)) tNil))) (tOp (rI CPow fun i j => .int (i ^ j.toNat)) (tC (.int 10)) (tC (.int 6)))) tNil))) σ H 20 NearD := by
  have pw : ∀ {B : Hp}, EvD K (tOp (rI CPow fun i j => .int (i ^ j.toNat)) (tC (.int 10)) (tC (.int 6))) σ B (.int 1000000) := ed_int ev_pow6
  have d99 : EvX K D (tOp (rI0 fun i j => .int (i - j)) (tCall spDraw [] E2 (tCons (tVar 1) (tCons (tC (.int 99)) tNil))) (tC (.int 49))) σ H (0 + 1 + 0) (PInt (0 - 50 + 1) (99 - 49)) :=
    ex_subI (a := 0) (b := 99) (c := 49) (e := 50) (ex_draw (z := 99) (i := 1) h1 (ex_int (ed_int ev_c) ⟨by decide, by decide⟩) (by decide)) ex_cI
  have px : EvX K D (tCall spPick [] E1 (tCons (tVar 1) (tCons (tLst (tCons (tC (.int 0)) (tCons (tOp (rI CPow fun i j => .int (i ^ j.toNat)) (tC (.int 10)) (tC (.int 6))) (tCons (tUn (rU fun i => .int (-i)) (tOp (rI CPow fun i j => .int (i ^ j.toNat)) (tC (.int 10)) (tC (.int 6))))
      (tCons (tOp (rI0 fun i j => .int (i - j)) (tCall spDraw [] E2 (tCons (tVar 1) (tCons (tC (.int 99)) tNil))) (tC (.int 49))) tNil))))) tNil))) σ H 10 (PInt (-1000000) 1000001) :=
    (ex_pick (i := 1) h1 (el_N (enx_lst (eax_cons (ex_int (lo := -1000000) (hi := 1000001) (ed_int ev_c) ⟨by decide, by decide⟩) (eax_cons (ex_int (lo := -1000000) (hi := 1000001) pw ⟨by decide, by decide⟩) (eax_cons (ex_int (lo := -1000000) (hi := 1000001) (ed_int (ev_un ev_pow6 ru_neg)) ⟨by decide, by decide⟩)
      (eax_cons (d99.mono (Nat.le_refl _) (P' := PInt (-1000000) 1000001) fun dd ⟨j, e, h0, h1⟩ => ⟨j, e, by omega, by omega⟩) eax_nil)))) (fun ds h => by
        obtain ⟨_, _, rfl, _, _, _, rfl, _, _, _, rfl, _, _, _, rfl, _, rfl⟩ := h
        show 4 ≤ 100000
        decide))) (fun ds h => by
        obtain ⟨_, _, rfl, _, _, _, rfl, _, _, _, rfl, _, _, _, rfl, _, rfl⟩ := h
        exact ⟨by show 0 < 4; decide, by show 4 < 1000000; decide⟩)).mono (by decide) fun dd ⟨ds, h, hd⟩ => by
        obtain ⟨_, _, rfl, p1, _, _, rfl, p2, _, _, rfl, p3, _, _, rfl, p4, rfl⟩ := h
        simp only [List.mem_cons, List.not_mem_nil, or_false] at hd
        rcases hd with rfl | rfl | rfl | rfl
        · exact p1
        · exact p2
        · exact p3
        · exact p4
  have py : EvX K D (tOp (rI0 fun i j => .int (i - j)) (tCall spDraw [] E3 (tCons (tVar 1) (tCons (tC (.int 2000001)) tNil))) (tOp (rI CPow fun i j => .int (i ^ j.toNat)) (tC (.int 10)) (tC (.int 6)))) σ H (0 + 1 + 0) (PInt (0 - 1000001 + 1) (2000001 - 1000000)) :=
    ex_subI (a := 0) (b := 2000001) (c := 1000000) (e := 1000001) (ex_draw (z := 2000001) (i := 1) h1 (ex_int (ed_int ev_c) ⟨by decide, by decide⟩) (by decide)) (ex_int pw ⟨by decide, by decide⟩)
  refine (ex_tup (eax_cons px (eax_cons py eax_nil)) (fun ds h => by
    obtain ⟨_, _, rfl, _, _, _, rfl, _, rfl⟩ := h
    show 2 ≤ 100000
    decide)).mono (by decide) fun dd h => ?_
  obtain ⟨ds, rfl, _, _, rfl, ⟨x, rfl, x0, x1⟩, _, _, rfl, ⟨y, rfl, y0, y1⟩, rfl⟩ := h
  exact ⟨(x, y), rfl, by show -1000000 ≤ x; omega, by show x ≤ 1000000; omega, by show -1000000 ≤ y; omega, by show y ≤ 1000000; omega⟩
theorem wd_rng9 {m : Nat} {ta : TE} {B : Hp} (h : Ev ta σ B (.int (m : Int))) (hm : m ≤ 1000) : ∀ B1 H1, Ex B B1 → Ex B1 H1 → ∀ R : It → Hp → Prop, (∀ J B2 H2, Gr B1 H1 B2 H2 → Walk J ((List.range m).map fun i : Nat => PyData.int (i : Int)).length (fun H' => Ex B2 H') (fun i H x H' => H' = H ∧ ∃ d, ((List.range m).map fun i : Nat => PyData.int (i : Int))[i]? = some d ∧ Dq K B2 x d) → R J H2) → iRng1 (tCons ta tNil) σ H1 R := fun B1 H1 e s R q =>
  h H1 (e.trans s) _ fun H2 e2 => ⟨(m : Int), rfl, by omega, by omega, by
    have w := walk_range (lo := 0) (n := m)
    refine q _ B1 H2 (.of s e2) ?_
    rw [List.length_map, List.length_range]
    refine Walk.mono w (fun _ _ => True.intro) fun i H' x H'' hi _ y => ⟨y.1, .int (i : Int), ?_, ?_⟩
    · rw [List.getElem?_map, List.getElem?_range hi]
      rfl
    · rw [y.2]
      show Dq K B1 (.int (0 + (i : Int))) _
      rw [Int.zero_add]
      exact .int _⟩
theorem near_all : ∀ {es : List PyData}, (∀ (j : Nat) e, es[j]? = some e → NearD e) → ∃ ps : List (Int × Int), es = ps.map prD ∧ ∀ p ∈ ps, Near p
  | [], _ => ⟨[], rfl, fun p h => by cases h⟩
  | d :: r, h => by
    obtain ⟨p, hp, hn⟩ := h 0 d rfl
    obtain ⟨ps, hps, hns⟩ := near_all (es := r) fun j e he => h (j + 1) e he
    refine ⟨p :: ps, by rw [hp, hps]; rfl, fun q hq => ?_⟩
    rcases List.mem_cons.mp hq with rfl | hq
    · exact hn
    · exact hns q hq
/-- the lines of places, by a comprehension -/
theorem el_places {H : Hp} {i j k : Nat} {vs : List Nat} {v : V} {ps : List (Int × Int)} (hi : σ[i]? = some (some v)) (hv : Dq K H v (.tuple (ps.map prD))) (hl : ps.length ≤ 24) (hn : ∀ p ∈ ps, Near p)
    (hw : ∀ x y, wipe (((wipe σ vs).set j (some x)).set k (some y)) vs = wipe σ vs) (hj : ∀ x y, (((wipe σ vs).set j (some x)).set k (some y))[j]? = some (some x)) (hk : ∀ x y, (((wipe σ vs).set j (some x)).set k (some y))[k]? = some (some y)) :
    EvL (tLc (iTup K (tVar i)) (gTup K 2 (gCons (gName j) (gCons (gName k) gNil))) tYes (tOp (fun x y H Q => ∃ i j, x = V.str i ∧ y = V.str j ∧ i.length + j.length ≤ sizeLine ∧ Q (.str (i ++ j)) H) (tOp (fun x y H Q => ∃ i j, x = V.str i ∧ y = V.str j ∧ i.length + j.length ≤ sizeLine ∧ Q (.str (i ++ j)) H)
      (tOp (fun x y H Q => ∃ i j, x = V.str i ∧ y = V.str j ∧ i.length + j.length ≤ sizeLine ∧ Q (.str (i ++ j)) H) (tC (.str "place ")) (tCB (fun xs H Q => ∃ i : Int, xs = [.int i] ∧ i.natAbs.log2 < 1920 ∧ Q (.str (toString i)) H) (tCons (tVar j) tNil))) (tC (.str " "))) (tCB (fun xs H Q => ∃ i : Int, xs = [.int i] ∧ i.natAbs.log2 < 1920 ∧ Q (.str (toString i)) H) (tCons (tVar k) tNil))) vs) σ H ((ps.map lineP).map V.str) := by
  cases hv with
  | @tup a xs _ hsx hdx =>
  have h5 := dq_pls hdx
  have hxl := h5.len
  refine el_is (ys := (ps.map lineP).map V.str) (el_lcW (σ := σ) (H := H) (n := xs.length) (Y := YAt xs) (fun _ => true) (fun i => ((ps.map lineP).map V.str).getD i .non) (by omega)
    (fun H4 e4 R hR => ⟨_, hi, a, rfl, ⟨xs, ex_t e4 hsx⟩, hR _ H4 (Ex.refl _) (Walk.mono (walk_tup (K := K) (a := a) (xs := xs)) (fun H' e' => ex_t (e4.trans e') hsx) fun _ _ _ _ _ _ y => y)⟩)
    (fun n z H4 H5 hn' e4 y => ?_)) ?_
  · obtain ⟨rfl, hy⟩ := y
    obtain ⟨p, T, hp, rfl, hT⟩ := h5.get n z hy
    have hT2 := ex_t e4 hT
    have hnear := hn p (List.mem_of_getElem? hp)
    obtain ⟨n1, n2⟩ := near_abs hnear
    have l1 := numT_len n1
    have l2 := numT_len n2
    have c6 : ("place " : Str).length = 6 := by decide +kernel
    have c1 : (" " : Str).length = 1 := by decide +kernel
    have e : ((ps.map lineP).map V.str).getD n .non = V.str (lineP p) := by
      rw [List.getD_eq_getElem?_getD, List.getElem?_map, List.getElem?_map, hp]
      rfl
    have big : ∀ i : Int, i.natAbs < 10 ^ 7 → i.natAbs < 2 ^ 1000 := fun i h => Nat.lt_of_lt_of_le h (by decide +kernel)
    refine ⟨Ex.refl _, ((wipe σ vs).set j (some (.int p.1))).set k (some (.int p.2)), fun R hR => ⟨T, _, rfl, hT2, rfl, _, _, rfl, _, _, rfl, rfl, hR⟩, hw _ _, fun H6 e6 Q6 q6 => q6 H6 (Ex.refl _), fun _ => ?_⟩
    rw [e]
    exact ev_catS (ev_catS (ev_catS ev_c (ev_strI (ev_var (hj _ _)) (big _ n1)) (by omega)) ev_c (by rw [Str.length_append]; omega)) (ev_strI (ev_var (hk _ _)) (big _ n2)) (by rw [Str.length_append, Str.length_append]; omega)
  · have er := range_getD ((ps.map lineP).map V.str) .non
    rw [List.length_map, List.length_map] at er
    rw [given_all, hxl]
    exact er
theorem evq_cq {a : Addr} {xs : List V} {ks : List (Int × Int)} {H : Hp} (h : H a = some (.tup xs)) (hk : PrL H xs ks) : EvQ K (tC (.ref a)) σ H ks := fun H1 e Q q => q a xs H1 (Ex.refl _) (SqT.of (e _ _ h)) (hk.up e)
/-- name = Net(many, ties that are drawn) -/
theorem q_mkNet {C : Addr} {H : Hp} {m : Int} {E : XK} {i : Nat} {tz : TS} {En : Ends} (R : List (Int × Int) → Hp → Prop) (h : Ev ta σ H (.int m))
    (hb : ∀ H1, Ex H H1 → ∀ Q2 : VK, (∀ a xs ks H2, R ks H2 → H2 a = some (.tup xs) → PrL H2 xs ks → OkNet m ks → Q2 (.ref a) H2) → tb σ H1 Q2)
    (q : ∀ y ks H2 H3, R ks H2 → Ex H2 H3 → OkNet m ks → NetV K C H3 y m ks → tz En (σ.set i (some y)) H3) : tSeq (tAsg (tMake C (spNetI K C) [] E (tCons ta (tCons tb tNil))) (gName i)) tz En σ H :=
  h H (Ex.refl _) _ fun H2 e2 => hb H2 e2 _ fun a xs ks H3 r ha hk ok =>
    ent_make (K := K) (C := C) (ta := tC (.int m)) (tb := tC (.ref a)) (σ := σ) (E := E) ev_c (evq_cq ha hk) ok H3 (Ex.refl _) (fun y H5 => tz En (σ.set i (some y)) H5) fun y H5 e5 hy => q y ks H3 H5 r e5 ok hy
/-! ### what draws leave alone -/
theorem sqt_kst9 {H' : Hp} {t : Nat} {a : Addr} {xs : List V} (s : ST D H t) (k : Kx D.d D.g H H') (h : SqT K H a xs) : SqT K H' a xs := by
  obtain ⟨ps, e1⟩ := s.nd
  obtain ⟨ys, e2⟩ := s.ng
  rcases h with (h | ⟨o, h⟩) | h
  · exact .inl (.inl (k _ _ (ne_of h e1 (by intro q; cases q)) (ne_of h e2 (by intro q; cases q)) tup_nt h))
  · exact .inl (.inr ⟨o, k _ _ (ne_of h e1 (by intro q; cases q)) (ne_of h e2 (by intro q; cases q)) (fun ps z => by cases z) h⟩)
  · exact .inr h
theorem prl_kst9 {H' : Hp} {t : Nat} (s : ST D H t) (k : Kx D.d D.g H H') : ∀ {xs : List V} {ks : List (Int × Int)}, PrL H xs ks → PrL H' xs ks
  | _, _, .nil => .nil
  | _, _, .cons h r => .cons (by
      obtain ⟨T, e, h⟩ := h
      obtain ⟨ps, e1⟩ := s.nd
      obtain ⟨ys, e2⟩ := s.ng
      exact ⟨T, e, k T _ (ne_of h e1 (by intro q; cases q)) (ne_of h e2 (by intro q; cases q)) tup_nt h⟩) (prl_kst9 s k r)
theorem netv_kst9 {H' : Hp} {t : Nat} {C : Addr} {x : V} {m : Int} {ks : List (Int × Int)} (st : ST D H t) (k : Kx D.d D.g H H') (h : NetV K C H x m ks) : NetV K C H' x m ks := by
  obtain ⟨s, dx, a, xs, h1, h2, h3, h4⟩ := h
  obtain ⟨ps, e1⟩ := st.nd
  obtain ⟨ys, e2⟩ := st.ng
  exact ⟨s, dx, a, xs, h1, k _ _ (ne_of h2 e1 (by intro q; cases q)) (ne_of h2 e2 (by intro q; cases q)) (fun ps z => by cases z) h2, sqt_kst9 st k h3, prl_kst9 st k h4⟩
/-! ### lists of texts, written -/
theorem el_cat9 {H : Hp} {xs ys : List V} (ha : EvL ta σ H xs) (hb : EvL tb σ H ys) (hz : xs.length + ys.length ≤ 100000) : EvL (tOp rCat ta tb) σ H (xs ++ ys) := fun H1 e Q q =>
  ha H1 e _ fun p H2 hp e2 h2 => hb H2 (e.trans e2) _ fun r H3 hr e3 h3 => ⟨p, r, xs, ys, rfl, rfl, e3 _ _ h2, h3, sz_of hz, fun l hl => q l _ (fresh_back (e2.trans e3) hl) ((e2.trans e3).trans (Ex.new hl)) upd_same⟩
abbrev rIns9 : V → List V → Hp → VK → Prop := fun x vs H Q => ∃ (l : Addr) (xs : List V) (i : Int) (y : V), x = .ref l ∧ vs = [.int i, y] ∧ H l = some (.lst xs) ∧ xs.length < sizeLine ∧ 0 ≤ i ∧ i < 2 ^ 63 ∧ Q .non (upd H l (.lst (xs.take i.toNat ++ [y] ++ xs.drop i.toNat)))
theorem s_ins9 {H : Hp} {to ti ty : TE} {l : Addr} {xs : List V} {k : Nat} {En : Ends} (R : V → Hp → Prop) (hl : H l = some (.lst xs)) (ha : Ev to σ H (.ref l)) (hi : Ev ti σ H (.int (k : Int))) (hk : k ≤ 1000) (hz : xs.length ≤ 1000)
    (hy : ∀ H1, Ex H H1 → ∀ Q : VK, (∀ y H2, R y H2 → H2 l = some (.lst xs) → Q y H2) → ty σ H1 Q) (q : ∀ y H2, R y H2 → H2 l = some (.lst xs) → En.nx σ (upd H2 l (.lst (xs.take k ++ [y] ++ xs.drop k)))) : tDrop (tBM K "list" rIns9 to (tCons ti (tCons ty tNil))) En σ H :=
  ha H (Ex.refl _) _ fun H1 e1 => ⟨Or.inl ⟨rfl, xs, sq_of (e1 _ _ hl)⟩, hi H1 e1 _ fun H2 e2 => hy H2 (e1.trans e2) _ fun y H3 r h3 => ⟨l, xs, (k : Int), y, rfl, rfl, h3, sz_lt (by omega), by omega, by omega, by rw [Int.toNat_natCast]; exact q y H3 r h3⟩⟩
theorem s_pop9 {H : Hp} {to ti : TE} {l : Addr} {xs : List V} {k : Nat} {En : Ends} (hl : H l = some (.lst xs)) (ha : Ev to σ H (.ref l)) (hi : Ev ti σ H (.int (k : Int))) (hk : k < xs.length) (hz : xs.length ≤ 1000)
    (q : ∀ H2, Ex H H2 → En.nx σ (upd H2 l (.lst (xs.eraseIdx k)))) : tDrop (tBM K "list" rPopAt to (tCons ti tNil)) En σ H :=
  ha H (Ex.refl _) _ fun H1 e1 => ⟨Or.inl ⟨rfl, xs, sq_of (e1 _ _ hl)⟩, hi H1 e1 _ fun H2 e2 => ⟨l, xs, (k : Int), k, xs[k], rfl, rfl, (e1.trans e2) _ _ hl, by omega, by omega, by
    have := seqIndex_of (k := (k : Int)) (n := xs.length) (by omega) (by omega)
    rw [Int.toNat_natCast] at this
    exact this, List.getElem?_eq_getElem hk, q H2 (e1.trans e2)⟩⟩
theorem s_set9 {H : Hp} {to ti ty : TE} {l : Addr} {xs : List V} {k : Nat} {y : V} {En : Ends} (hl : H l = some (.lst xs)) (hy : Ev ty σ H y) (ha : Ev to σ H (.ref l)) (hi : Ev ti σ H (.int (k : Int))) (hk : k < xs.length)
    (q : ∀ H2, Ex H H2 → En.nx σ (upd H2 l (.lst (xs.set k y)))) : tAsg ty (gSub to ti rSetL) En σ H :=
  hy H (Ex.refl _) _ fun H1 e1 => ha H1 e1 _ fun H2 e2 => hi H2 (e1.trans e2) _ fun H3 e3 => ⟨l, xs, (k : Int), k, rfl, rfl, ((e1.trans e2).trans e3) _ _ hl, by
    unfold ixN
    rw [if_pos (by omega), if_pos (by omega), Int.toNat_natCast], q H3 ((e1.trans e2).trans e3)⟩
theorem map_eraseIdx9 {α β : Type} (f : α → β) : ∀ (l : List α) (k : Nat), (l.eraseIdx k).map f = (l.map f).eraseIdx k
  | [], _ => rfl
  | _ :: _, 0 => rfl
  | a :: r, k + 1 => by
    show f a :: (r.eraseIdx k).map f = f a :: (r.map f).eraseIdx k
    rw [map_eraseIdx9 f r k]
def oddL : List Str := ["0", "-0", "00", "+1", "", "1000000", "1000001", "-1000000", "-1000001", repL "9" 18, repL "9" 19, "1_0", "x", "place", "\t1", "1.0"]
theorem oddL_ok : ∀ o ∈ oddL, 10 ∉ tl o ∧ o.length ≤ 19 := by decide +kernel
def putL : List Str := ["", " ", "place 0", "place 0 0 0", "Place 0 0", "place 0 0 "]
theorem putL_ok : ∀ o ∈ putL, 10 ∉ tl o ∧ o.length ≤ 19 := by decide +kernel
theorem ed_strs {B : Hp} : ∀ {ts : TA} {ss : List Str}, EvA ts σ B (ss.map V.str) → EaD K ts σ B (ss.map .str) := fun {ts ss} h B1 H1 e s Q q =>
  h H1 (e.trans s) _ fun H2 e2 => q _ B1 H2 (.of s e2) (dq_strs ss)
/-- parts of words, joined -/
theorem words_ok {ws : List Str} (h : ∀ w ∈ ws, 10 ∉ tl w ∧ w.length ≤ 19) (hl : ws.length ≤ 5) : 10 ∉ tl (Txt.join " " ws) ∧ (Txt.join " " ws).length ≤ 200 := by
  refine join_words (fun w hw => (h w hw).1) ?_
  have : ∀ l : List Str, (∀ s ∈ l, s.length ≤ 19) → (l.map Str.length).sum ≤ 19 * l.length := fun l => by
    induction l with
    | nil => exact fun _ => Nat.le_refl _
    | cons a r ih =>
      intro hh
      have h1 := ih fun s hs => hh s (List.mem_cons_of_mem _ hs)
      have h2 := hh a List.mem_cons_self
      simp only [List.map_cons, List.sum_cons, List.length_cons] at h1 ⊢
      omega
  have := this ws fun s hs => (h s hs).2
  omega
theorem line_words {p : Int × Int} (h : Near p) : ∀ w ∈ [("place" : Str), numT p.1, numT p.2], 10 ∉ tl w ∧ w.length ≤ 19 := fun w hw => by
  obtain ⟨n1, n2⟩ := near_abs h
  have : w = "place" ∨ w = numT p.1 ∨ w = numT p.2 := by simpa using hw
  rcases this with rfl | rfl | rfl
  · show 10 ∉ tl ("place" : Str) ∧ ("place" : Str).length ≤ 19
    decide +kernel
  · have := numT_len n1
    exact ⟨num_free (by decide), by omega⟩
  · have := numT_len n2
    exact ⟨num_free (by decide), by omega⟩
theorem sum_words {ws : List Str} (h : ∀ w ∈ ws, 10 ∉ tl w ∧ w.length ≤ 19) (hl : ws.length ≤ 5) : (ws.map (·.length)).sum + ws.length * (" " : Str).length ≤ 16777216 := by
  have c : (" " : Str).length = 1 := by decide +kernel
  have : ∀ l : List Str, (∀ s ∈ l, s.length ≤ 19) → (l.map (·.length)).sum ≤ 19 * l.length := fun l => by
    induction l with
    | nil => exact fun _ => Nat.le_refl _
    | cons a r ih =>
      intro hh
      have h1 := ih fun s hs => hh s (List.mem_cons_of_mem _ hs)
      have h2 := hh a List.mem_cons_self
      simp only [List.map_cons, List.sum_cons, List.length_cons] at h1 ⊢
      omega
  have := this ws fun s hs => (h s hs).2
  rw [c]
  omega
theorem dq_own9 {H : Hp} {l : Addr} {zs : List V} {o : HO} {u : V} {ps : List (Int × Int)} (hl : H l = some (.lst zs)) (h : Dq K H u (.tuple (ps.map prD))) : Dq K (upd H l o) u (.tuple (ps.map prD)) := by
  cases h with
  | tup hs hx => exact .tup (sqt_upl hl hs) ((dq_pls hx).upl hl).dq
theorem prl_own9 {H : Hp} {l : Addr} {zs : List V} {o : HO} (hl : H l = some (.lst zs)) : ∀ {xs : List V} {ks : List (Int × Int)}, PrL H xs ks → PrL (upd H l o) xs ks
  | _, _, .nil => .nil
  | _, _, .cons h r => .cons (by
      obtain ⟨T, e, h⟩ := h
      exact ⟨T, e, (upd_ne (ne_of h hl (by intro q; cases q))).trans h⟩) (prl_own9 hl r)
theorem netv_own9 {H : Hp} {C l : Addr} {zs : List V} {o : HO} {x : V} {m : Int} {ks : List (Int × Int)} (hl : H l = some (.lst zs)) (h : NetV K C H x m ks) : NetV K C (upd H l o) x m ks := by
  obtain ⟨s, dx, a, xs, h1, h2, h3, h4⟩ := h
  exact ⟨s, dx, a, xs, h1, (upd_ne (ne_of h2 hl (by intro q; cases q))).trans h2, sqt_upl hl h3, prl_own9 hl h4⟩
theorem due_big {m : Nat} {ls : List Str} (h : ls.length ≤ 1000) : (dueP m ls).natAbs < 2 ^ 1000 := by
  refine Nat.lt_of_le_of_lt (m := 1001) ?_ (by decide +kernel)
  unfold dueP
  split
  · rename_i j hj
    obtain ⟨⟨_, h2⟩, _⟩ := bad_some ls 0 hj
    omega
  · split <;> omega
/-- a, b = v, [] -/
theorem q_parL9 {H : Hp} {i j : Nat} {v : V} {tz : TS} {En : Ends} (h : Ev ta σ H v) (k : ∀ H1, Ex H H1 → ∀ bx, H1 bx = none → ∀ H2, Ex (upd H1 bx (.lst [])) H2 → tz En ((σ.set i (some v)).set j (some (.ref bx))) H2) :
    tSeq (tAsg (tTup (tCons ta (tCons (tLst tNil) tNil))) (gTup K 2 (gCons (gName i) (gCons (gName j) gNil)))) tz En σ H :=
  h H (Ex.refl _) _ fun H1 e1 => ⟨by show 0 ≤ sizeLine; decide, fun bx hbx => ⟨by show 2 ≤ sizeLine; decide, fun pT hpT => g_pair (k H1 e1 bx hbx _ (Ex.new hpT))⟩⟩
theorem g_nm9 {i : Nat} {v : V} {H : Hp} {tz : TS} {En : Ends} (h : tz En (σ.set i (some v)) H) : gName i v σ H ({ En with nx := tz En } : Ends).nx := h
theorem q_caught9 {T : List (Addr × Str)} {DE CE : Addr} {t : XK → TE} {tu tz : TS} {En : Ends} {H : Hp} (R : Hp → Hp → Prop) (hT : Tabs T H) (hx : PySem.W.exmOne K (.ref CE) (.ref DE) = some true) (hc : ExcC K CE)
    (ht : ∀ H1, ExtN H H1 → Tabs T H1 → ∀ (E : XK) (Q : VK), (∀ H2, R H1 H2 → E (.ref CE) none H2) → t E σ H1 Q) (k : ∀ H1 H2 H3, ExtN H H1 → Tabs T H1 → R H1 H2 → Ex H2 H3 → tz En σ H3) :
    tSeq (tIfS (tNot (tB (tCB (rIsK K) (tCons (tLam T (TKeep K DE) t) (tCons (tC (.ref CE)) tNil))))) tu tNext) tz En σ H := s_caught (D := { En with nx := tz En }) R hT hx hc ht k
theorem q_forLams9 {T : List (Addr × Str)} {q : Str} {mks : List (Addr → LO)} {gt : TG} {tu tz : TS} {En : Ends} {H : Hp} (hm : mks.length ≤ 1000) (hT : Tabs T H) (Pv : Addr → List Addr → Nat → L2.St → Hp → Prop)
    (h0 : ∀ p fs H1, ExtN H H1 → Tabs T H1 → LamsAt H1 q mks fs → H1 p = some (.lst (fs.map V.ref)) → Pv p fs 0 σ H1) (hl : ∀ p fs i σ' H', Pv p fs i σ' H' → H' p = some (.lst (fs.map V.ref)))
    (hs : ∀ p fs i x σ' H', (fs.map V.ref)[i]? = some x → Pv p fs i σ' H' → gt x σ' H' fun σ2 H2 => tu { En with nx := Pv p fs (i + 1), ct := Pv p fs (i + 1), bk := tz En } σ2 H2) (hd : ∀ p fs n σ' H', Pv p fs n σ' H' → tz En σ' H') : tSeq (tFor (iList K (tLst (tLamsA T q mks))) gt tu) tz En σ H :=
  s_forLams (D := { En with nx := tz En }) hm hT Pv h0 hl hs hd
end
end My
/-! the law of k90 -/
namespace My
open PySem PySem.Spec PyProof.Rows L2 Evl Kpt LamX LamW TL
/-! the lambdas that stand in lists -/
def forIt9 : Stmt → Expr
  | .For _ it _ _ _ => it
  | _ => .Constant .none 0 ⟨0, 0, 0, 0⟩
def forBd9 : Stmt → List Stmt
  | .For _ _ b _ _ => b
  | _ => []
def eltsOf9 : Expr → List Expr
  | .List es _ => es
  | _ => []
def noE9 : Expr := .Constant .none 0 ⟨0, 0, 0, 0⟩
def lamPar9 : Expr → Arguments
  | .Lambda a _ _ _ => a
  | _ => defArgs noS
def lamBod9 : Expr → Expr
  | .Lambda _ b _ _ => b
  | _ => noE9
def lamSc9 : Expr → Scope
  | .Lambda _ _ s _ => s
  | _ => defScope noS
def lamAt9 (i k : Nat) : Expr := (eltsOf9 (forIt9 ((forBd9 ((defBody s_law).getD 1 noS)).getD i noS))).getD k noE9
section
variable {P : Program} {w : World} {K : PySem.W.Frag} {mg : Str → Option Value} {base : Heap}
theorem ok_law90 {f cL PT C DE CN CP CT fI fC fBe fPi fDr fTy fPx fPo fDu fNn fNp : Addr} {fd fdI fdC fdBe fdPi fdDr fdTy fdPx fdPo fdDu fdNn fdNp : FuncData}
    (F : Fun K "law" "law" s_law f fd) (hcode : fd.code = .ref cL) (TB : TabB base mg cL PT) (N : NmB mg) (gS : mg "str" = none) (gR : mg "repr" = none) (insN : InsF K C)
    (xE : ∀ x, x = CN ∨ x = CP ∨ x = CT → PySem.W.exmOne K (.ref x) (.ref DE) = some true ∧ ExcC K x) (k0T : PySem.W.kitOne K (.type "NoneType") (.ref CT) = some false) (T : NtF K mg C fI) (gI : FnOk P w K mg base CX0 4 fI fdI ["self", "many", "ties"] (spNetI K C)) (bI : Binds K fdI ["self", "many", "ties"] [])
    (gN : mg "BadNet" = some (.ref CN)) (gP : mg "BadPlaces" = some (.ref CP)) (gT : mg "BadText" = some (.ref CT)) (hno : PySem.W.findIn K (.ref CT) "line" = some none) (hXf : XfC K CT)
    (FC : Fun K "_law_caught" "_law_caught" s_law_caught fC fdC) (mgC : mg "_law_caught" = some (.ref fC)) (gD : mg "DrawError" = some (.ref DE))
    (Be : CalX P w K mg base CX0 1 "_law_begun" ["script"] (spBegun K) fBe fdBe) (Pi : CalX P w K mg base CX0 3 "_law_pick" ["state", "several"] spPick fPi fdPi) (Dr : CalX P w K mg base CX0 2 "_law_draw" ["state", "size_here"] spDraw fDr fdDr) (Ty : CalX P w K mg base CX0 4 "_law_nt_ties" ["state", "many", "most"] (spTies K) fTy fdTy)
    (Px : CalX P w K mg base (L2.CX P w) 6 "places_text" ["net", "places"] (spPtx K C CN CP) fPx fdPx) (kPx : KBinds K fdPx ["net", "places"] ["places", "net"] g2 g2)
    (Po : CalX P w K mg base (L2.CX P w) 5 "places_of_text" ["net", "text"] (spPot K C CN CT) fPo fdPo) (kPo : KBinds K fdPo ["net", "text"] ["text", "net"] g2 g2)
    (Du : CalX P w K mg base CX0 2 "_law_k90_due" ["many", "lines"] (spDue K) fDu fdDu) (Nn : CalX P w K mg base CX0 4 "_law_nt_no_net" ["state"] (spNoNet2 K C) fNn fdNn) (Np : CalX P w K mg base CX0 4 "_law_st_no_places" ["state", "many"] (spNoPl K) fNp fdNp) :
    FnOkG P w K mg base CX0 9 f fd ["script"] (spLaw90 K PT) := by
  refine okG (sp := spLaw90 K PT) (N := nL90) (let ⟨oc, od, kV, doc, pm, an, cdv, ct, osl, e, l, c⟩ := F.ex; ⟨oc, od, .none, kV, doc, pm, an, cdv, ct, osl, e, l, c⟩) scL90 (fun vs H Q E h => ?_) (fun cdv hcd A outer s H vs Q E hgd hr h => ?_)
  · obtain ⟨a, ns, rfl, _⟩ := h
    rfl
  · obtain ⟨a, ns, rfl, hS, hlen, hPT, k⟩ := h
    have hcL : cdv = .ref cL := hcd.symm.trans hcode
    let X : Cx := (cxOf CX0 P w K mg base nL90 "law" (defScope s_law) f cdv A outer s H E).nox
    have hrX : Room 8 X.A := hr
    have hgX : X.A.guards = some [] := hgd
    have hu := hrX.units
    let TT : List (Addr × Str) := [(PT, X.env.qual ++ "<lambda>")]
    have hmT : (PT, X.env.qual ++ "<lambda>") ∈ TT := List.mem_cons_self
    have huT : ∀ p ∈ TT, p.1 = PT → p.2 = X.env.qual ++ "<lambda>" := fun p hp _ => by rw [List.mem_singleton.mp hp]
    have hT0 : Tabs TT H := fun p hp => by
      rw [List.mem_singleton.mp hp]
      exact TabS.nil hPT
    obtain ⟨ocC, odC, kVC, docC, pmC, anC, cdvC, ctC, oslC, eC, lkC, hcdC⟩ := FC.ex
    subst eC
    have bC : Binds K (PySem.W.fnOf "_law_caught" "_law_caught" (defArgs s_law_caught) (defBody s_law_caught) (defScope s_law_caught) .none kVC docC pmC anC cdvC ctC) ["work"] [] := FC.binds (ps := ["work"]) fun _ _ _ _ _ _ us hl => match us, hl with | [_], _ => rfl
    have lam : ∀ {params : Arguments} {body : Expr} {scope : Scope} {t : XK → TE} {p lpos pos : Pos}, lamSB (defScope s_law) scope = true → defaultsOf params X.env = ([], []) →
        (∀ (q : Str) (cl : List (Str × Addr)) (pm cv ctv : Value), bindArgs (PySem.W.kla_fn "<lambda>" q params body scope cl pm cv ctv) ⟨[], []⟩ = pure []) →
        (∀ (A : Around) (outer : List Env) (s : Shared) (H : Hp) (E : XK) (f c' : Addr), Room 6 (A.deeper (lamEnv X scope s.heap.objs.size f c')) → PE (lamCx X A outer s H E scope f c') body (t E)) →
        PE X (.Call (.Name "_law_caught" p) [.Lambda params body scope lpos] [] pos) (tLam TT (TKeep K DE) t) := fun LS hd hb hbody =>
      pe_lamcall (X := X) (by rfl) mgC FC.kp lkC hcdC bC scCa rfl (Or.inl rfl) (caught_gives (X := X) gD) TB hcL hmT huT hrX (show LamS (defScope s_law) _ from lamS_by LS) hd hb hbody
    let W0 : ∀ {A : Around} {outer : List Env} {s : Shared} {H : Hp} {E : XK} {scope : Scope} {f c' : Addr}, Passes (L2.CX P w) (lamCx X A outer s H E scope f c') E := fun {A outer s H E scope f c'} => passes_call (W := WxE E) (takes_of rfl rfl rfl rfl) fun _ _ _ _ h => h
    let fm : (e : Expr) → (t : XK → TE) → lamSB (defScope s_law) (lamSc9 e) = true → (∀ (q : Str) (cl : List (Str × Addr)) (pm cv ctv : Value), bindArgs (PySem.W.kla_fn "<lambda>" q (lamPar9 e) (lamBod9 e) (lamSc9 e) cl pm cv ctv) ⟨[], []⟩ = pure []) →
        (∀ (A : Around) (outer : List Env) (s : Shared) (H : Hp) (E : XK) (f c' : Addr), Room 6 (A.deeper (lamEnv X (lamSc9 e) s.heap.objs.size f c')) → PE (lamCx X A outer s H E (lamSc9 e) f c') (lamBod9 e) (t E)) → Fam X 6 := fun e t h1 h2 h3 =>
      ⟨lamPar9 e, lamBod9 e, lamSc9 e, t, (show LamS (defScope s_law) _ from lamS_by h1), h2, h3⟩
    let A0 : Fam X 6 := fm (lamAt9 9 0) (fun E => tCall (spPtx K C CN CP) [] E (tCons (tVar 16) (tCons (tC .non) tNil))) (by decide +kernel) (fun _ _ _ _ _ => rfl) (fun A outer s H E f c' hr' => pe_call (E := E) Px.ok hr' (by rfl) Px.g Px.kp Px.b .nil W0 (pa_cons (pe_var (i := 16) rfl (Or.inr (Or.inr (by rfl)))) (pa_cons pe_non pa_nil)))
    let A1 : Fam X 6 := fm (lamAt9 9 1) (fun E => tCall (spPot K C CN CT) [] E (tCons (tVar 16) (tCons (tC .non) tNil))) (by decide +kernel) (fun _ _ _ _ _ => rfl) (fun A outer s H E f c' hr' => pe_call (E := E) Po.ok (hr'.mono (by decide)) (by rfl) Po.g Po.kp Po.b .nil W0 (pa_cons (pe_var (i := 16) rfl (Or.inr (Or.inr (by rfl)))) (pa_cons pe_non pa_nil)))
    have lmN : ∀ (fam : List (Fam X 6)) {p yp pos : Pos}, PE X (.Call (.Name "_law_caught" p) [.Name "ask" yp] [] pos) (tLamN fam (X.env.qual ++ "<lambda>") 22 (TKeep K DE)) := fun fam {p yp pos} =>
      pe_lamN (X := X) (fam := fam) (by rfl) mgC FC.kp lkC hcdC bC scCa rfl (Or.inl rfl) (caught_gives (X := X) gD) hrX rfl (Or.inl rfl)
    have lmV : ∀ {params : Arguments} {body : Expr} {scope : Scope} {lpos : Pos}, lamSB (defScope s_law) scope = true → defaultsOf params X.env = ([], []) → PE X (.Lambda params body scope lpos) (tLamV TT (X.env.qual ++ "<lambda>") (loOf X params body scope)) := fun LS hd =>
      pe_lamV (X := X) TB hcL hmT huT (show LamS (defScope s_law) _ from lamS_by LS) hd
    have P0 : Passes (L2.CX P w) X L2.E0 := passes_call LamX.takes0 fun _ _ _ _ h => h
    refine ⟨_, PSs.nox (pss_cons (ps_set (i := 1) scL90.nd rfl (Or.inr rfl) (pe_call Be.ok (hrX.mono (by decide)) (by rfl) Be.g Be.kp Be.b .nil pass0 (pa_cons (pv 0) pa_nil)))
      (pss_cons (ps_for PassesOwn.never rfl (pi_range1 (by rfl) N.rng (pa_cons (pe_op op_add pe_int (pe_callB (call_min2 rfl) (by rfl) N.min boot_min (pa_cons (pe_callB call_len_seq (by rfl) N.len PySem.boot_len (pa_cons (pv 0) pa_nil)) (pa_cons pe_int pa_nil)))) pa_nil)) (pg_name (i := 2) scL90.nd rfl (Or.inl rfl))
        (pss_cons (ps_set (i := 3) scL90.nd rfl (Or.inr rfl) (pe_op op_add pe_int (pe_call Dr.ok (hrX.mono (by decide)) (by rfl) Dr.g Dr.kp Dr.b .nil pass0 (pa_cons (pv 1) (pa_cons (pe_call Pi.ok (hrX.mono (by decide)) (by rfl) Pi.g Pi.kp Pi.b .nil pass0 (pa_cons (pv 1) (pa_cons (pe_lst (pa_cons pe_int (pa_cons pe_int (pa_cons pe_int pa_nil)))) pa_nil))) pa_nil)))))
          (pss_cons (ps_set (i := 4) scL90.nd rfl (Or.inr rfl) (pe_make T.mkr gI (hrX.mono (by decide)) (by rfl) T.g bI .nil pass0 (pa_cons (pv 3) (pa_cons (pe_call Ty.ok (hrX.mono (by decide)) (by rfl) Ty.g Ty.kp Ty.b .nil pass0 (pa_cons (pv 1) (pa_cons (pv 3) (pa_cons (pv 3) pa_nil)))) pa_nil))))
          (pss_cons (ps_set (i := 5) scL90.nd rfl (Or.inl rfl) (pe_callTy (show CallR _ _ (rTupS K) from call_tuple_of) (by rfl) N.tup boot_tupT (pa_cons (pe_lc (own := [("point", 6)]) (g := gName 6) rfl scL90.nd (pi_range1 (by rfl) N.rng (pa_cons (pv 3) pa_nil)) (blkOk_by (N := nL90) (sc := defScope s_law) (by decide +kernel)) (fun _ _ _ _ _ => pg_name (i := 6) scL90.nd rfl (Or.inl rfl)) (fun _ _ _ _ _ => pts_nil) (fun _ _ _ _ _ => (pe_tup (pa_cons (pe_call Pi.ok (hrX.mono (by decide)) (by rfl) Pi.g Pi.kp Pi.b .nil pass0 (pa_cons (pe_var (i := 1) rfl (Or.inr (Or.inl (by rfl)))) (pa_cons (pe_lst (pa_cons pe_int (pa_cons (pe_op op_pow pe_int pe_int) (pa_cons (pe_un un_neg (pe_op op_pow pe_int pe_int)) (pa_cons (pe_op op_sub (pe_call Dr.ok (hrX.mono (by decide)) (by rfl) Dr.g Dr.kp Dr.b .nil pass0 (pa_cons (pe_var (i := 1) rfl (Or.inr (Or.inl (by rfl)))) (pa_cons pe_int pa_nil))) pe_int) pa_nil))))) pa_nil))) (pa_cons (pe_op op_sub (pe_call Dr.ok (hrX.mono (by decide)) (by rfl) Dr.g Dr.kp Dr.b .nil pass0 (pa_cons (pe_var (i := 1) rfl (Or.inr (Or.inl (by rfl)))) (pa_cons pe_int pa_nil))) (pe_op op_pow pe_int pe_int)) pa_nil))))) pa_nil)))
          (pss_cons (ps_set (i := 7) scL90.nd rfl (Or.inr rfl) (pe_lc (own := [("across", 8), ("up", 9)]) (g := gTup K 2 (gCons (gName 8) (gCons (gName 9) gNil))) rfl scL90.nd (pi_tup (pv 5)) (blkOk_by (N := nL90) (sc := defScope s_law) (by decide +kernel)) (fun _ _ _ _ _ => pg_tup rfl (pgs_cons (pg_name (i := 8) scL90.nd rfl (Or.inl rfl)) (pgs_cons (pg_name (i := 9) scL90.nd rfl (Or.inl rfl)) pgs_nil))) (fun _ _ _ _ _ => pts_nil) (fun _ _ _ _ _ => pe_op op_add_str (pe_op op_add_str (pe_op op_add_str pe_str (pe_callTy call_str_int (by rfl) gS boot_strT (pa_cons (pv 8) pa_nil))) pe_str) (pe_callTy call_str_int (by rfl) gS boot_strT (pa_cons (pv 9) pa_nil)))))
          (pss_cons (ps_set (i := 10) scL90.nd rfl (Or.inl rfl) (pe_join pe_str (pv 7)))
          (pss_cons (ps_if (PW.pt (pw_or (pt_cmpR op_ne (pe_call (E := L2.E0) Px.ok (hrX.mono (by decide)) (by rfl) Px.g Px.kp Px.b .nil P0 (pa_cons (pv 4) (pa_cons (pv 5) pa_nil))) (pv 10) (nomark _)) (pw_or1 (pt_cmpR op_ne (pe_callK0 (E := L2.E0) Px.ok (hrX.mono (by decide)) (by rfl) Px.g Px.kp kPx P0 (pk_cons (pv 5) (pk_cons (pv 4) pk_nil))) (pv 10) (nomark _))))) (pss_one (ps_ret pe_bl)) pss_nil)
          (pss_cons (ps_if (pt_cmpR op_ne (pe_callB (show CallR _ _ (rReprD K) from call_reprD hgX hu) (by rfl) gR boot_rep9 (pa_cons (pe_lst (pa_cons (pe_call (E := L2.E0) Po.ok (hrX.mono (by decide)) (by rfl) Po.g Po.kp Po.b .nil P0 (pa_cons (pv 4) (pa_cons (pv 10) pa_nil))) (pa_cons (pe_callK0 (E := L2.E0) Po.ok (hrX.mono (by decide)) (by rfl) Po.g Po.kp kPo P0 (pk_cons (pv 10) (pk_cons (pv 4) pk_nil))) pa_nil))) pa_nil)) (pe_callB (show CallR _ _ (rReprD K) from call_reprD hgX hu) (by rfl) gR boot_rep9 (pa_cons (pe_lst (pa_cons (pv 5) (pa_cons (pv 5) pa_nil))) pa_nil)) (nomark _)) (pss_one (ps_ret pe_bl)) pss_nil)
          (pss_cons (ps_for PassesOwn.never rfl (pi_range1 (by rfl) N.rng (pa_cons pe_int pa_nil)) (pg_name (i := 11) scL90.nd rfl (Or.inl rfl))
          (pss_cons (ps_par (i := 12) (j := 13) rfl scL90.nd rfl rfl (by decide) rfl rfl (pa_cons (pe_call Dr.ok (hrX.mono (by decide)) (by rfl) Dr.g Dr.kp Dr.b .nil pass0 (pa_cons (pv 1) (pa_cons (pv 3) pa_nil))) (pa_cons (pe_call Dr.ok (hrX.mono (by decide)) (by rfl) Dr.g Dr.kp Dr.b .nil pass0 (pa_cons (pv 1) (pa_cons pe_int pa_nil))) pa_nil)) (by rfl))
          (pss_cons (ps_set (i := 14) scL90.nd rfl (Or.inl rfl) (pe_split (pe_ix (show IxR _ (rIxL K) from ix_list) (pv 7) (pv 12) (fun _ _ => rfl)) pe_str))
          (pss_cons (ps_set (i := 15) scL90.nd rfl (Or.inl rfl) (pe_call Dr.ok (hrX.mono (by decide)) (by rfl) Dr.g Dr.kp Dr.b .nil pass0 (pa_cons (pv 1) (pa_cons pe_int pa_nil))))
          (pss_cons (ps_set (i := 16) scL90.nd rfl (Or.inr rfl) (pe_call Pi.ok (hrX.mono (by decide)) (by rfl) Pi.g Pi.kp Pi.b .nil pass0 (pa_cons (pv 1) (pa_cons (pe_lst (pa_cons pe_str (pa_cons pe_str (pa_cons pe_str (pa_cons pe_str (pa_cons pe_str (pa_cons pe_str (pa_cons pe_str (pa_cons pe_str (pa_cons pe_str (pa_cons (pe_op op_repS pe_str pe_int) (pa_cons (pe_op op_repS pe_str pe_int) (pa_cons pe_str (pa_cons pe_str (pa_cons pe_str (pa_cons pe_str (pa_cons pe_str pa_nil))))))))))))))))) pa_nil))))
          (pss_cons (ps_set (i := 17) scL90.nd rfl (Or.inl rfl) (pe_callTy (show CallR _ _ (rListS K) from call_list_of) (by rfl) N.list boot_lst9 (pa_cons (pv 7) pa_nil)))
          (pss_cut (ps_if (pt_cmpR op_eq (pv 13) pe_int (nomark _)) (pss_one (ps_expr (pe_bm PySem.F.plainAttrs_list PySem.F.slot_list_pop PySem.F.type_list_pop mt_popAt (pv 17) (pa_cons (pv 12) pa_nil)))) (pss_one (ps_if (pt_cmpR op_eq (pv 13) pe_int (nomark _)) (pss_one (ps_expr (pe_bm PySem.F.plainAttrs_list PySem.F.slot_list_insert PySem.F.type_list_insert mt_insert (pv 17) (pa_cons (pv 12) (pa_cons (pe_ix (show IxR _ (rIxL K) from ix_list) (pv 7) (pv 12) (fun _ _ => rfl)) pa_nil))))) (pss_one (ps_if (pt_cmpR op_eq (pv 13) pe_int (nomark _)) (pss_one (ps_expr (pe_bm PySem.F.plainAttrs_list PySem.F.slot_list_insert PySem.F.type_list_insert mt_insert (pv 17) (pa_cons (pv 12) (pa_cons (pe_call Pi.ok (hrX.mono (by decide)) (by rfl) Pi.g Pi.kp Pi.b .nil pass0 (pa_cons (pv 1) (pa_cons (pe_lst (pa_cons pe_str (pa_cons pe_str (pa_cons pe_str (pa_cons pe_str (pa_cons pe_str (pa_cons pe_str pa_nil))))))) pa_nil))) pa_nil))))) (pss_one (ps_if (pt_cmpR op_eq (pv 13) pe_int (nomark _)) (pss_one (ps_asg (pe_join pe_str (pe_op op_cat (pe_slice (show SlR _ (rSlL K) from sl_list) (pv 14) po_none (po_some (pv 15))) (pe_slice (show SlR _ (rSlL K) from sl_list) (pv 14) (po_some (pe_op op_add (pv 15) pe_int)) po_none))) (pg_sub (pv 17) (pv 12) set_list))) (pss_one (ps_asg (pe_join pe_str (pe_op op_cat (pe_op op_cat (pe_slice (show SlR _ (rSlL K) from sl_list) (pv 14) po_none (po_some (pv 15))) (pe_lst (pa_cons (pv 16) pa_nil))) (pe_slice (show SlR _ (rSlL K) from sl_list) (pv 14) (po_some (pe_op op_add (pv 15) pe_int)) po_none))) (pg_sub (pv 17) (pv 12) set_list))))))))))
          (pss_cons (ps_asg (pe_tup (pa_cons (pe_join pe_str (pv 17)) (pa_cons (pe_lst pa_nil) pa_nil))) (pg_tup rfl (pgs_cons (pg_name (i := 18) scL90.nd rfl (Or.inr rfl)) (pgs_cons (pg_name (i := 19) scL90.nd rfl (Or.inr rfl)) pgs_nil))))
          (pss_cons (ps_set (i := 20) scL90.nd rfl (Or.inl rfl) (pe_call Du.ok (hrX.mono (by decide)) (by rfl) Du.g Du.kp Du.b .nil pass0 (pa_cons (pv 3) (pa_cons (pe_ifExp (pt_cmpR op_ne (pv 18) pe_str (nomark _)) (pv 17) (pe_lst pa_nil)) pa_nil))))
          (pss_cons (ps_set (i := 21) scL90.nd rfl (Or.inl rfl) (lam (t := fun E => tBM K "list" rAppend (tVar 19) (tCons (tCall (spPot K C CN CT) [] E (tCons (tVar 4) (tCons (tVar 18) tNil))) tNil)) (by decide +kernel) (by rfl) (fun _ _ _ _ _ => rfl) (fun A outer s H E f c' hr' => pe_bm PySem.F.plainAttrs_list PySem.F.slot_list_append PySem.F.type_list_append mt_append (pe_var (i := 19) rfl (Or.inr (Or.inr (by rfl)))) (pa_cons (pe_call (E := E) Po.ok (hr'.mono (by decide)) (by rfl) Po.g Po.kp Po.b .nil W0 (pa_cons (pe_var (i := 4) rfl (Or.inr (Or.inr (by rfl)))) (pa_cons (pe_var (i := 18) rfl (Or.inr (Or.inr (by rfl)))) pa_nil))) pa_nil))))
          (pss_cons (ps_if (PW.pt (pw_and (pt_cmpR op_eq (pv 20) (pe_un un_neg pe_int) (nomark _)) (pw_and1 (PW.pt (pw_or (pt_cmp (pc_notN (pv 21))) (pw_or1 (pt_cmpR op_ne (pe_call (E := L2.E0) Px.ok (hrX.mono (by decide)) (by rfl) Px.g Px.kp Px.b .nil P0 (pa_cons (pv 4) (pa_cons (pe_ix (show IxR _ (rIxL K) from ix_list) (pv 19) pe_int (fun _ _ => rfl)) pa_nil))) (pv 18) (nomark _)))))))) (pss_one (ps_ret pe_bl)) pss_nil)
          (pss_one (ps_if (PW.pt (pw_and (pt_cmpR op_ne (pv 20) (pe_un un_neg pe_int) (nomark _)) (pw_and1 (PW.pt (pw_or (pt_not (pt_val (pe_callB call_is9 (by rfl) N.isi boot_isi (pa_cons (pv 21) (pa_cons (pe_glob (v := .ref CT) (by rfl) gT rfl) pa_nil))))) (pw_or1 (pt_cmpR op_ne (pe_callB SkE.call_repr_int (by rfl) gR boot_rep9 (pa_cons (pe_xfK (pv 21)) pa_nil)) (pe_callB SkE.call_repr_int (by rfl) gR boot_rep9 (pa_cons (pv 20) pa_nil)) (nomark _)))))))) (pss_one (ps_ret pe_bl)) pss_nil)))))))))))))
          (pss_cons (ps_set (i := 16) scL90.nd rfl (Or.inr rfl) (pe_call Nn.ok (hrX.mono (by decide)) (by rfl) Nn.g Nn.kp Nn.b .nil pass0 (pa_cons (pv 1) pa_nil)))
          (pss_cons (ps_for PassesOwn.never rfl (pi_list (pe_lst (pa_cons (lmV (by decide +kernel) rfl) (pa_cons (lmV (by decide +kernel) rfl) pa_nil)))) (pg_name (i := 22) scL90.nd rfl (Or.inl rfl))
          (pss_one (ps_if (pt_not (pt_val (pe_callB call_isK (by rfl) N.isi boot_isi (pa_cons (lmN [A0, A1]) (pa_cons (pe_glob (v := .ref CN) (by rfl) gN rfl) pa_nil))))) (pss_one (ps_ret pe_bl)) pss_nil)))
          (pss_cons (ps_if (pt_not (pt_val (pe_callB call_isK (by rfl) N.isi boot_isi (pa_cons (lam (t := fun E => tCall (spPtx K C CN CP) [] E (tCons (tVar 4) (tCons (tCall (spNoPl K) [] L2.E0 (tCons (tVar 1) (tCons (tVar 3) tNil))) tNil))) (by decide +kernel) (by rfl) (fun _ _ _ _ _ => rfl) (fun A outer s H E f c' hr' => pe_call (E := E) Px.ok hr' (by rfl) Px.g Px.kp Px.b .nil W0 (pa_cons (pe_var (i := 4) rfl (Or.inr (Or.inr (by rfl)))) (pa_cons (pe_call (E := L2.E0) Np.ok (hr'.mono (by decide)) (by rfl) Np.g Np.kp Np.b .nil pass0 (pa_cons (pe_var (i := 1) rfl (Or.inr (Or.inr (by rfl)))) (pa_cons (pe_var (i := 3) rfl (Or.inr (Or.inr (by rfl)))) pa_nil))) pa_nil)))) (pa_cons (pe_glob (v := .ref CP) (by rfl) gP rfl) pa_nil))))) (pss_one (ps_ret pe_bl)) pss_nil)
          (pss_cons (ps_set (i := 21) scL90.nd rfl (Or.inl rfl) (lam (t := fun E => tCall (spPot K C CN CT) [] E (tCons (tVar 4) (tCons (tCall spPick [] L2.E0 (tCons (tVar 1) (tCons (tLst (tCons (tC .non) (tCons (tC (.int 5)) (tCons (tVar 7) (tCons (tTup tNil) (tCons (tC (.bl true)) tNil)))))) tNil))) tNil))) (by decide +kernel) (by rfl) (fun _ _ _ _ _ => rfl) (fun A outer s H E f c' hr' => pe_call (E := E) Po.ok (hr'.mono (by decide)) (by rfl) Po.g Po.kp Po.b .nil W0 (pa_cons (pe_var (i := 4) rfl (Or.inr (Or.inr (by rfl)))) (pa_cons (pe_call (E := L2.E0) Pi.ok (hr'.mono (by decide)) (by rfl) Pi.g Pi.kp Pi.b .nil pass0 (pa_cons (pe_var (i := 1) rfl (Or.inr (Or.inr (by rfl)))) (pa_cons (pe_lst (pa_cons pe_non (pa_cons pe_int (pa_cons (pe_var (i := 7) rfl (Or.inr (Or.inr (by rfl)))) (pa_cons (pe_tup pa_nil) (pa_cons pe_bl pa_nil)))))) pa_nil))) pa_nil)))))
          (pss_one (ps_if (PW.pt (pw_or (pt_not (pt_val (pe_callB call_is9 (by rfl) N.isi boot_isi (pa_cons (pv 21) (pa_cons (pe_glob (v := .ref CT) (by rfl) gT rfl) pa_nil))))) (pw_or1 (pt_cmpR op_ne (pe_callB SkE.call_repr_int (by rfl) gR boot_rep9 (pa_cons (pe_xfK (pv 21)) pa_nil)) pe_str (nomark _))))) (pss_one (ps_ret pe_bl)) pss_nil)))))))))))))))
      (pss_one (ps_ret pe_bl)))), ?_⟩
    have hlim : lim = 1000000000 := rfl
    refine ⟨_, rfl, a, ns, rfl, hS, hlen, fun d g q0 H1 s0 hd hg hc st1 l0 ht0 hcs0 e1 => ?_⟩
    have hS1 := ex_l e1 hS
    have hl3 : (ns.map V.int).length ≤ 63 := by rw [List.length_map]; exact hlen
    let D : DA := ⟨TT, d, g, q0, []⟩
    have s1 : ST D H1 0 := ⟨⟨s0, st1, by omega, by omega⟩, hT0.ext e1, fun a ha => by cases ha⟩
    let IV : Nat → L2.St → Hp → Prop := fun i σ' H' => ∃ (x2 x3 x4 x5 x6 x7 x8 x9 x10 x11 x12 x13 x14 x15 x16 x17 x18 x19 x20 x21 x22 : Option V), σ' = [some (.ref a), some (.ref d), x2, x3, x4, x5, x6, x7, x8, x9, x10, x11, x12, x13, x14, x15, x16, x17, x18, x19, x20, x21, x22] ∧ ST D H' (i * 5000)
    dsimp only
    refine q_forR1 (D := { nx := fun _ H' => Q .non H', rt := Q : L2.Ends }) (ea_cons (ev_op ev_c (ev_cb (ea_cons (ev_len (ev_var rfl) hS1) (ea_cons ev_c ea_nil)) (fun H1 _ Q q => ⟨_, _, rfl, q H1 (Ex.refl _)⟩)) rv_I0) ea_nil) ?_ IV (fun H2 e2 => ⟨none, none, none, none, none, none, none, none, none, none, none, none, none, none, none, none, none, none, none, none, none, rfl, by rw [Nat.zero_mul]; exact s1.up e2⟩) ?_ (fun σ' H' p => by
      obtain ⟨x2, x3, x4, x5, x6, x7, x8, x9, x10, x11, x12, x13, x14, x15, x16, x17, x18, x19, x20, x21, x22, rfl, s⟩ := p
      exact s_ret (v := .bl true) ev_c fun H2 _ => k H2)
    · split <;> omega
    rintro i σ' H2 hi ⟨x2, x3, x4, x5, x6, x7, x8, x9, x10, x11, x12, x13, x14, x15, x16, x17, x18, x19, x20, x21, x22, rfl, s2⟩
    have hi11 : (i : Int) < 11 := by
      split at hi <;> omega
    have hi11 : i < 11 := by omega
    show tSeq _ _ _ [some (.ref a), some (.ref d), some (.int (i : Int)), x3, x4, x5, x6, x7, x8, x9, x10, x11, x12, x13, x14, x15, x16, x17, x18, x19, x20, x21, x22] H2
    -- many
    refine q_asgX (K := K) (ex_many rfl) s2 (by omega) fun v3 H3 dd k3 s3 hv3 ⟨j, ej, j0, j1⟩ => ?_
    subst ej
    rw [hv3.int_eq]
    obtain ⟨m, rfl⟩ := Int.eq_ofNat_of_zero_le (show 0 ≤ j by omega)
    have m1 : 1 ≤ m := by omega
    have m2 : m ≤ 24 := by omega
    show tSeq _ _ _ [some (.ref a), some (.ref d), some (.int (i : Int)), some (.int (m : Int)), x4, x5, x6, x7, x8, x9, x10, x11, x12, x13, x14, x15, x16, x17, x18, x19, x20, x21, x22] H3
    -- net
    refine q_mkNet (K := K) (R := fun ks H' => ST D H' (i * 5000 + 10 + 2000) ∧ Kx D.d D.g H3 H') (ev_var rfl) (fun H3' e3' Q2 q2 => exp_ties9 (i := 1) (σ := [some (.ref a), some (.ref d), some (.int (i : Int)), some (.int (m : Int)), x4, x5, x6, x7, x8, x9, x10, x11, x12, x13, x14, x15, x16, x17, x18, x19, x20, x21, x22]) rfl (ev_var rfl) ⟨by omega, by omega⟩ (ev_var rfl) (by omega) (by omega) (s3.up e3') (by omega) fun a4 xs4 ks H4 s4 k4 h4 hk4 okn => q2 a4 xs4 ks H4 ⟨s4, (Kx.ex e3').trans k4⟩ h4 hk4 okn) fun y ks H4 H5 ⟨s4, k4⟩ e5 okn hy => ?_
    have s5 := s4.up e5
    show tSeq _ _ _ [some (.ref a), some (.ref d), some (.int (i : Int)), some (.int (m : Int)), some y, x5, x6, x7, x8, x9, x10, x11, x12, x13, x14, x15, x16, x17, x18, x19, x20, x21, x22] H5
    -- places_here
    refine q_asgX (ex_tupN (enx_lcW (K := K) (D := D) (σ := [some (.ref a), some (.ref d), some (.int (i : Int)), some (.int (m : Int)), some y, x5, x6, x7, x8, x9, x10, x11, x12, x13, x14, x15, x16, x17, x18, x19, x20, x21, x22]) (H := H5) (ds := (List.range m).map fun i : Nat => PyData.int (i : Int)) (n0 := 20) (g := gName 6) (vs := [6]) (fun _ => NearD) (by rw [List.length_map, List.length_range]; omega) (wd_rng9 (ev_var rfl) (by omega)) (fun S' i' x H' d' hd' hv' hk' hx' => ⟨_, fun R hR => hR, rfl, ex_place rfl⟩))) s5 (by rw [List.length_map, List.length_range]; omega) fun vp H6 dd k6 s6 hvp ⟨ds, edd, hdl, hdn⟩ => ?_
    subst edd
    obtain ⟨ps, rfl, hps⟩ := near_all hdn
    rw [List.length_map, List.length_map, List.length_range] at hdl
    rw [List.length_map, List.length_range] at s6
    have s6 := s6.mono (show i * 5000 + 10 + 2000 + m * 20 ≤ i * 5000 + 2500 by omega)
    have hy6 := netv_kst9 s5 k6 hy
    have hvp6 := hvp.up (vw_ex (D := D) (H := H6))
    have hpl24 : ps.length ≤ 24 := by omega
    show tSeq _ _ _ [some (.ref a), some (.ref d), some (.int (i : Int)), some (.int (m : Int)), some y, some vp, x6, x7, x8, x9, x10, x11, x12, x13, x14, x15, x16, x17, x18, x19, x20, x21, x22] H6
    -- lines
    refine q_asgL (el_places (K := K) (σ := [some (.ref a), some (.ref d), some (.int (i : Int)), some (.int (m : Int)), some y, some vp, x6, x7, x8, x9, x10, x11, x12, x13, x14, x15, x16, x17, x18, x19, x20, x21, x22]) (i := 5) (j := 8) (k := 9) (vs := [8, 9]) rfl hvp6 hpl24 hps (fun _ _ => rfl) (fun _ _ => rfl) (fun _ _ => rfl)) fun pl H7 hpl e7 h7 => ?_
    have s7 := s6.up e7
    have f7 := s6.fresh (nw_none hpl)
    have hgl := goodL_lines hpl24 hps
    have hsum := goodL_sum hgl
    have hne : ps ≠ [] := fun z => by rw [z] at hdl; simp at hdl; omega
    show tSeq _ _ _ [some (.ref a), some (.ref d), some (.int (i : Int)), some (.int (m : Int)), some y, some vp, x6, some (.ref pl), x8, x9, x10, x11, x12, x13, x14, x15, x16, x17, x18, x19, x20, x21, x22] H7
    -- text
    refine q_asg (ev_join (K := K) (σ := [some (.ref a), some (.ref d), some (.int (i : Int)), some (.int (m : Int)), some y, some vp, x6, some (.ref pl), x8, x9, x10, x11, x12, x13, x14, x15, x16, x17, x18, x19, x20, x21, x22]) (sep := "\n") (ss := ps.map lineP) ev_c (ev_var (i := 7) rfl) h7 (by
      have : ("\n" : Str).length = 1 := by decide +kernel
      rw [this, List.length_map]
      omega)) fun H8 e8 => ?_
    have s8 := s7.up e8
    have e68 := e7.trans e8
    have hy8 := hy6.up e68
    have hvp8 := hvp6.up e68
    have h8 := e8 _ _ h7
    show tSeq (tIfS _ _ _) _ _ [some (.ref a), some (.ref d), some (.int (i : Int)), some (.int (m : Int)), some y, some vp, x6, some (.ref pl), x8, x9, some (.str (textP ps)), x11, x12, x13, x14, x15, x16, x17, x18, x19, x20, x21, x22] H8
    have px : Ev (tCall (spPtx K C CN CP) [] L2.E0 (tCons (tVar 4) (tCons (tVar 5) tNil))) [some (.ref a), some (.ref d), some (.int (i : Int)), some (.int (m : Int)), some y, some vp, x6, some (.ref pl), x8, x9, some (.str (textP ps)), x11, x12, x13, x14, x15, x16, x17, x18, x19, x20, x21, x22] H8 (.str (textP ps)) := ev_call (ea_cons (ev_var rfl) (ea_cons (ev_var rfl) ea_nil)) fun H9 e9 Q9 q9 E9 => ⟨y, vp, rfl, .inr ⟨m, ks, ps, hy8.up e9, m2, hvp8.up e9, hdl, hps, fun H10 e10 => q9 H10 e10⟩⟩
    have px2 : Ev (tCallK0 (spPtx K C CN CP) g2 L2.E0 (tCons (tVar 5) (tCons (tVar 4) tNil))) [some (.ref a), some (.ref d), some (.int (i : Int)), some (.int (m : Int)), some y, some vp, x6, some (.ref pl), x8, x9, some (.str (textP ps)), x11, x12, x13, x14, x15, x16, x17, x18, x19, x20, x21, x22] H8 (.str (textP ps)) := ev_callK0 (ea_cons (ev_var rfl) (ea_cons (ev_var rfl) ea_nil)) fun H9 e9 Q9 q9 E9 => ⟨y, vp, rfl, .inr ⟨m, ks, ps, hy8.up e9, m2, hvp8.up e9, hdl, hps, fun H10 e10 => q9 H10 e10⟩⟩
    refine q_when (b := false) (et_is (et_or (et_test (ev_op px (ev_var rfl) (rv_ne rfl))) (fun _ => et_test (ev_op px2 (ev_var rfl) (rv_ne rfl)))) (by simp)) (fun z => by cases z) (fun _ H9 e9 => ?_)
    have s9 := s8.up e9
    have hy9 := hy8.up e9
    have hvp9 := hvp8.up e9
    have h9 := e9 _ _ h8
    have hdt : dueP m (linesT (textP ps)) = -1 := by rw [lines_text hne]; exact due_text hdl hps
    have hback : (linesT (textP ps)).filterMap placeP = ps := by rw [lines_text hne]; exact places_back hps
    have htl : (textP ps).length ≤ 20000 := Nat.le_trans (join_len hgl) (by decide)
    have po : EvH9 K (tCall (spPot K C CN CT) [] L2.E0 (tCons (tVar 4) (tCons (tVar 10) tNil))) [some (.ref a), some (.ref d), some (.int (i : Int)), some (.int (m : Int)), some y, some vp, x6, some (.ref pl), x8, x9, some (.str (textP ps)), x11, x12, x13, x14, x15, x16, x17, x18, x19, x20, x21, x22] H9 (.tuple (ps.map prD)) := fun H10 e10 Q10 q10 => ⟨_, rfl, _, rfl, y, _, rfl, .inr ⟨m, ks, hy9.up e10, m2, .inr ⟨textP ps, rfl, htl, fun z => absurd hdt z, fun _ u H11 e11 hu => q10 u H11 e11 (by rw [hback] at hu; exact hu)⟩⟩⟩
    have po2 : EvH9 K (tCallK0 (spPot K C CN CT) g2 L2.E0 (tCons (tVar 10) (tCons (tVar 4) tNil))) [some (.ref a), some (.ref d), some (.int (i : Int)), some (.int (m : Int)), some y, some vp, x6, some (.ref pl), x8, x9, some (.str (textP ps)), x11, x12, x13, x14, x15, x16, x17, x18, x19, x20, x21, x22] H9 (.tuple (ps.map prD)) := fun H10 e10 Q10 q10 => ⟨_, rfl, _, rfl, y, _, rfl, .inr ⟨m, ks, hy9.up e10, m2, .inr ⟨textP ps, rfl, htl, fun z => absurd hdt z, fun _ u H11 e11 hu => q10 u H11 e11 (by rw [hback] at hu; exact hu)⟩⟩⟩
    have hrp := rpr_places hpl24 hps
    show tSeq (tIfS _ _ _) _ _ [some (.ref a), some (.ref d), some (.int (i : Int)), some (.int (m : Int)), some y, some vp, x6, some (.ref pl), x8, x9, some (.str (textP ps)), x11, x12, x13, x14, x15, x16, x17, x18, x19, x20, x21, x22] H9
    refine q_when (b := false) (et_is (et_test (ev_op (ev_repr9 po po2 hrp) (ev_repr9 (evh9_var rfl hvp9) (evh9_var rfl hvp9) hrp) (rv_ne rfl))) (by simp)) (fun z => by cases z) (fun _ H10 e10 => ?_)
    have s10 := s9.up e10
    have hy10 := hy9.up e10
    have h10 := e10 _ _ h9
    show tSeq (tFor _ _ _) _ _ [some (.ref a), some (.ref d), some (.int (i : Int)), some (.int (m : Int)), some y, some vp, x6, some (.ref pl), x8, x9, some (.str (textP ps)), x11, x12, x13, x14, x15, x16, x17, x18, x19, x20, x21, x22] H10
    let IVL : Nat → L2.St → Hp → Prop := fun jl σ' H' => ∃ (x11 x12 x13 x14 x15 x16 x17 x18 x19 x20 x21 x22 : Option V), σ' = [some (.ref a), some (.ref d), some (.int (i : Int)), some (.int (m : Int)), some y, some vp, x6, some (.ref pl), x8, x9, some (.str (textP ps)), x11, x12, x13, x14, x15, x16, x17, x18, x19, x20, x21, x22] ∧ ST D H' (i * 5000 + 2500 + jl * 100) ∧ Kx D.d D.g H10 H'
    refine q_forR1 (ea_cons ev_c ea_nil) ⟨by decide, by decide⟩ IVL (fun H11 e11 => ⟨x11, x12, x13, x14, x15, x16, x17, x18, x19, x20, x21, x22, rfl, by rw [Nat.zero_mul]; exact s10.up e11, Kx.ex e11⟩) ?_ ?_
    · rintro jl σ' HL hj ⟨x11, x12, x13, x14, x15, x16, x17, x18, x19, x20, x21, x22, rfl, sL, kL⟩
      have hj : jl < 10 := by omega
      have hyL := netv_kst9 s10 kL hy10
      have hLL : HL pl = some (.lst ((ps.map lineP).map V.str)) := kL pl _ f7.1 f7.2.1 lst_nt h10
      show tSeq _ _ _ [some (.ref a), some (.ref d), some (.int (i : Int)), some (.int (m : Int)), some y, some vp, x6, some (.ref pl), x8, x9, some (.str (textP ps)), some (.int (jl : Int)), x12, x13, x14, x15, x16, x17, x18, x19, x20, x21, x22] HL
      -- at, way
      refine q_parX (K := K) (D := D) (n := 0 + 1) (m := 0 + 1) (ex_draw (n := 0) (z := (m : Int)) (i := 1) rfl (ex_int (z := (m : Int)) (ed_int (ev_var rfl)) ⟨by omega, by omega⟩) (by omega)) (ex_draw (n := 0) (z := 6) (i := 1) rfl (ex_int (z := 6) (ed_int ev_c) ⟨by decide, by decide⟩) (by decide)) sL (by omega) fun v12 v13 Ha da db ka sa hva hvb ⟨ja, ea, ja0, ja1⟩ ⟨wy, eb, wy0, wy1⟩ => ?_
      subst ea eb
      rw [hva.int_eq, hvb.int_eq]
      obtain ⟨at_, rfl⟩ := Int.eq_ofNat_of_zero_le ja0
      have hat : at_ < ps.length := by omega
      have hLa := ka pl _ f7.1 f7.2.1 lst_nt hLL
      have hya := netv_kst9 sL ka hyL
      obtain ⟨pp, hpp⟩ : ∃ pp, ps[at_] = pp := ⟨_, rfl⟩
      have hnp : Near pp := hpp ▸ hps _ (List.getElem_mem hat)
      have hget : ((ps.map lineP).map V.str)[at_]? = some (.str (lineP pp)) := by rw [List.getElem?_map, List.getElem?_map, List.getElem?_eq_getElem hat, hpp]; rfl
      have hlp := lineP_len hnp
      show tSeq _ _ _ [some (.ref a), some (.ref d), some (.int (i : Int)), some (.int (m : Int)), some y, some vp, x6, some (.ref pl), x8, x9, some (.str (textP ps)), some (.int (jl : Int)), some (.int (at_ : Int)), some (.int wy), x14, x15, x16, x17, x18, x19, x20, x21, x22] Ha
      -- words_here
      refine q_asgL (el_is (el_split sep_sp (ev_op (ev_var (i := 7) rfl) (ev_var (i := 12) rfl) (rv_ixL (K := K) (SqL.of hLa) (atI_nat hget))) ev_c (by omega)) (by rw [split_line])) fun pw Hb hpw eb hb => ?_
      have sb := sa.up eb
      have hwo := line_words hnp
      show tSeq _ _ _ [some (.ref a), some (.ref d), some (.int (i : Int)), some (.int (m : Int)), some y, some vp, x6, some (.ref pl), x8, x9, some (.str (textP ps)), some (.int (jl : Int)), some (.int (at_ : Int)), some (.int wy), some (.ref pw), x15, x16, x17, x18, x19, x20, x21, x22] Hb
      -- spot
      refine q_asgX (K := K) (D := D) (n := 0 + 1) (ex_draw (n := 0) (z := 3) (i := 1) rfl (ex_int (z := 3) (ed_int ev_c) ⟨by decide, by decide⟩) (by decide)) sb (by omega) fun v15 Hc dd kc sc hvc ⟨js, ec, js0, js1⟩ => ?_
      subst ec
      rw [hvc.int_eq]
      obtain ⟨sp, rfl⟩ := Int.eq_ofNat_of_zero_le js0
      have hsp : sp < 3 := by omega
      have fb := sa.fresh (nw_none hpw)
      have hbc := kc pw _ fb.1 fb.2.1 lst_nt hb
      have hLc := ((Kx.ex eb).trans kc) pl _ f7.1 f7.2.1 lst_nt hLa
      have hyc := netv_kst9 sa ((Kx.ex eb).trans kc) hya
      show tSeq _ _ _ [some (.ref a), some (.ref d), some (.int (i : Int)), some (.int (m : Int)), some y, some vp, x6, some (.ref pl), x8, x9, some (.str (textP ps)), some (.int (jl : Int)), some (.int (at_ : Int)), some (.int wy), some (.ref pw), some (.int (sp : Int)), x16, x17, x18, x19, x20, x21, x22] Hc
      -- odd
      refine q_asgX (K := K) (D := D) (n := 0 + 1) (ex_pick (K := K) (D := D) (n := 0) (i := 1) (L := fun ds => ds = oddL.map .str) rfl (el_N (en_D (en_lst (K := K) (ds := oddL.map .str) (ed_strs (ss := oddL) (ea_cons ev_c (ea_cons ev_c (ea_cons ev_c (ea_cons ev_c (ea_cons ev_c (ea_cons ev_c (ea_cons ev_c (ea_cons ev_c (ea_cons ev_c
          (ea_cons (ev_op ev_c ev_c (fun H9 e9 Q9 q9 => ⟨"9", 18, rfl, rfl, by decide, by decide, by decide +kernel, by decide +kernel, q9 H9 (Ex.refl _)⟩)) (ea_cons (ev_op ev_c ev_c (fun H9 e9 Q9 q9 => ⟨"9", 19, rfl, rfl, by decide, by decide, by decide +kernel, by decide +kernel, q9 H9 (Ex.refl _)⟩))
          (ea_cons ev_c (ea_cons ev_c (ea_cons ev_c (ea_cons ev_c (ea_cons ev_c ea_nil))))))))))))))))) (by show 16 ≤ 100000; decide)))) (fun ds e => by subst e; exact ⟨by show 0 < 16; decide, by show 16 < 1000000; decide⟩)) sc (by omega) fun v16 Hd dd kd sd hvd ⟨ds, e, hdd⟩ => ?_
      subst e
      obtain ⟨od, hod, rfl⟩ := List.mem_map.mp hdd
      have e16 : v16 = .str od := by cases hvd; rfl
      subst e16
      have hoo := oddL_ok od hod
      have hbd := kd pw _ fb.1 fb.2.1 lst_nt hbc
      have hLd := kd pl _ f7.1 f7.2.1 lst_nt hLc
      have hyd := netv_kst9 sc kd hyc
      show tSeq _ _ _ [some (.ref a), some (.ref d), some (.int (i : Int)), some (.int (m : Int)), some y, some vp, x6, some (.ref pl), x8, x9, some (.str (textP ps)), some (.int (jl : Int)), some (.int (at_ : Int)), some (.int wy), some (.ref pw), some (.int (sp : Int)), some (.str od), x17, x18, x19, x20, x21, x22] Hd
      -- some
      refine q_asgL (el_list (K := K) (ev_var (i := 7) rfl) (SqL.of hLd)) fun pm He hpm ee hm0 => ?_
      have se := sd.up ee
      have fm := sd.fresh (nw_none hpm)
      have hbe := ee _ _ hbd
      have hLe := ee _ _ hLd
      have hll : (ps.map lineP).length = m := by rw [List.length_map]; exact hdl
      show tCut _ _ _ [some (.ref a), some (.ref d), some (.int (i : Int)), some (.int (m : Int)), some y, some vp, x6, some (.ref pl), x8, x9, some (.str (textP ps)), some (.int (jl : Int)), some (.int (at_ : Int)), some (.int wy), some (.ref pw), some (.int (sp : Int)), some (.str od), some (.ref pm), x18, x19, x20, x21, x22] He
      refine ⟨fun σ' H' => σ' = [some (.ref a), some (.ref d), some (.int (i : Int)), some (.int (m : Int)), some y, some vp, x6, some (.ref pl), x8, x9, some (.str (textP ps)), some (.int (jl : Int)), some (.int (at_ : Int)), some (.int wy), some (.ref pw), some (.int (sp : Int)), some (.str od), some (.ref pm), x18, x19, x20, x21, x22] ∧ ∃ ss, GoodL ss ∧ H' pm = some (.lst (ss.map V.str)) ∧ ST D H' (i * 5000 + 2500 + jl * 100 + 10) ∧ Kx D.d D.g Hd H', ?_, ?_⟩
      · have hxl : ((ps.map lineP).map V.str).length = m := by rw [List.length_map]; exact hll
        have ty : ∀ z : Int, ∀ Hf, EvT (tTest (tOp rEq (tVar 13) (tC (.int z)))) [some (.ref a), some (.ref d), some (.int (i : Int)), some (.int (m : Int)), some y, some vp, x6, some (.ref pl), x8, x9, some (.str (textP ps)), some (.int (jl : Int)), some (.int (at_ : Int)), some (.int wy), some (.ref pw), some (.int (sp : Int)), some (.str od), some (.ref pm), x18, x19, x20, x21, x22] Hf (decide (wy = z)) := fun z Hf => et_is (et_test (ev_op (ev_var rfl) ev_c (rv_eq rfl))) V_intD
        have fin : ∀ (ss : List Str) (Hf : Hp), GoodL ss → Hf pm = some (.lst (ss.map V.str)) → ST D Hf (i * 5000 + 2500 + jl * 100 + 10) → Kx D.d D.g Hd Hf → [some (.ref a), some (.ref d), some (.int (i : Int)), some (.int (m : Int)), some y, some vp, x6, some (.ref pl), x8, x9, some (.str (textP ps)), some (.int (jl : Int)), some (.int (at_ : Int)), some (.int wy), some (.ref pw), some (.int (sp : Int)), some (.str od), some (.ref pm), x18, x19, x20, x21, x22] = [some (.ref a), some (.ref d), some (.int (i : Int)), some (.int (m : Int)), some y, some vp, x6, some (.ref pl), x8, x9, some (.str (textP ps)), some (.int (jl : Int)), some (.int (at_ : Int)), some (.int wy), some (.ref pw), some (.int (sp : Int)), some (.str od), some (.ref pm), x18, x19, x20, x21, x22] ∧ ∃ ss, GoodL ss ∧ Hf pm = some (.lst (ss.map V.str)) ∧ ST D Hf (i * 5000 + 2500 + jl * 100 + 10) ∧ Kx D.d D.g Hd Hf := fun ss Hf h1 h2 h3 h4 => ⟨rfl, ss, h1, h2, h3, h4⟩
        have mk : ∀ (ss : List Str) (Hf : Hp), Ex He Hf → GoodL ss → [some (.ref a), some (.ref d), some (.int (i : Int)), some (.int (m : Int)), some y, some vp, x6, some (.ref pl), x8, x9, some (.str (textP ps)), some (.int (jl : Int)), some (.int (at_ : Int)), some (.int wy), some (.ref pw), some (.int (sp : Int)), some (.str od), some (.ref pm), x18, x19, x20, x21, x22] = [some (.ref a), some (.ref d), some (.int (i : Int)), some (.int (m : Int)), some y, some vp, x6, some (.ref pl), x8, x9, some (.str (textP ps)), some (.int (jl : Int)), some (.int (at_ : Int)), some (.int wy), some (.ref pw), some (.int (sp : Int)), some (.str od), some (.ref pm), x18, x19, x20, x21, x22] ∧ ∃ ss', GoodL ss' ∧ upd Hf pm (.lst (ss.map V.str)) pm = some (.lst (ss'.map V.str)) ∧ ST D (upd Hf pm (.lst (ss.map V.str))) (i * 5000 + 2500 + jl * 100 + 10) ∧ Kx D.d D.g Hd (upd Hf pm (.lst (ss.map V.str))) := fun ss Hf ef hs => by
          have e := Ex.mut (o := .lst (ss.map V.str)) (ee.trans ef) hpm
          exact ⟨rfl, ss, hs, upd_same, (sd.up e).mono (by omega), Kx.ex e⟩
        have wsl : ∀ Hf, Ex He Hf → ∀ lo hi, ∀ {tlo thi : TO}, EvO tlo [some (.ref a), some (.ref d), some (.int (i : Int)), some (.int (m : Int)), some y, some vp, x6, some (.ref pl), x8, x9, some (.str (textP ps)), some (.int (jl : Int)), some (.int (at_ : Int)), some (.int wy), some (.ref pw), some (.int (sp : Int)), some (.str od), some (.ref pm), x18, x19, x20, x21, x22] Hf lo → EvO thi [some (.ref a), some (.ref d), some (.int (i : Int)), some (.int (m : Int)), some y, some vp, x6, some (.ref pl), x8, x9, some (.str (textP ps)), some (.int (jl : Int)), some (.int (at_ : Int)), some (.int wy), some (.ref pw), some (.int (sp : Int)), some (.str od), some (.ref pm), x18, x19, x20, x21, x22] Hf hi → EvL (tSl (rSlL K) (tVar 14) tlo thi) [some (.ref a), some (.ref d), some (.int (i : Int)), some (.int (m : Int)), some y, some vp, x6, some (.ref pl), x8, x9, some (.str (textP ps)), some (.int (jl : Int)), some (.int (at_ : Int)), some (.int wy), some (.ref pw), some (.int (sp : Int)), some (.str od), some (.ref pm), x18, x19, x20, x21, x22] Hf (cutV ([("place" : Str), numT pp.1, numT pp.2].map V.str) lo hi) := fun Hf ef lo hi tlo thi h1 h2 => el_sl (K := K) (ev_var rfl) h1 h2 (SqL.of (ef _ _ hbe))
        have w1 : ∀ Hf, Ex He Hf → EvL (tSl (rSlL K) (tVar 14) tNoPart (tPart (tVar 15))) [some (.ref a), some (.ref d), some (.int (i : Int)), some (.int (m : Int)), some y, some vp, x6, some (.ref pl), x8, x9, some (.str (textP ps)), some (.int (jl : Int)), some (.int (at_ : Int)), some (.int wy), some (.ref pw), some (.int (sp : Int)), some (.str od), some (.ref pm), x18, x19, x20, x21, x22] Hf (([("place" : Str), numT pp.1, numT pp.2].take sp).map V.str) := fun Hf ef => el_is (wsl Hf ef none (some (sp : Int)) eo_none (eo_some (ev_var rfl))) (by rw [cut_to, List.map_take])
        have w2 : ∀ Hf, Ex He Hf → EvL (tSl (rSlL K) (tVar 14) (tPart (tOp (rI0 fun i j => .int (i + j)) (tVar 15) (tC (.int 1)))) tNoPart) [some (.ref a), some (.ref d), some (.int (i : Int)), some (.int (m : Int)), some y, some vp, x6, some (.ref pl), x8, x9, some (.str (textP ps)), some (.int (jl : Int)), some (.int (at_ : Int)), some (.int wy), some (.ref pw), some (.int (sp : Int)), some (.str od), some (.ref pm), x18, x19, x20, x21, x22] Hf (([("place" : Str), numT pp.1, numT pp.2].drop (sp + 1)).map V.str) := fun Hf ef => el_is (wsl Hf ef (some ((sp + 1 : Nat) : Int)) none (eo_some (ev_op (ev_var rfl) ev_c rv_I0)) eo_none) (by rw [cut_from, List.map_drop])
        refine s_if (ty 0 He) (fun _ Hf ef => ?_) (fun z0 Hf ef => ?_)
        · refine s_pop9 (xs := (ps.map lineP).map V.str) (k := at_) (ef _ _ hm0) (ev_var rfl) (ev_var rfl) (by omega) (by omega) fun H2 e2 => ?_
          have := mk ((ps.map lineP).eraseIdx at_) H2 (ef.trans e2) (hgl.pop at_)
          rw [map_eraseIdx9] at this
          exact this
        refine s_if (ty 1 Hf) (fun _ Hg eg => ?_) (fun z1 Hg eg => ?_)
        · have efg := ef.trans eg
          refine s_ins9 (xs := (ps.map lineP).map V.str) (k := at_) (fun y' H2 => y' = .str (lineP pp) ∧ Ex Hg H2) (efg _ _ hm0) (ev_var rfl) (ev_var rfl) (by omega) (by omega) (fun H1 e1 Q1 q1 => ev_op (ev_var (i := 7) rfl) (ev_var (i := 12) rfl) (rv_ixL (K := K) (SqL.of ((efg.trans e1) _ _ hLe)) (atI_nat hget)) H1 (Ex.refl _) _ fun H2 e2 => q1 _ H2 ⟨rfl, e1.trans e2⟩ (((efg.trans e1).trans e2) _ _ hm0)) fun y' H2 ⟨ey, e2⟩ h2 => ?_
          subst ey
          have := mk ((ps.map lineP).take at_ ++ [lineP pp] ++ (ps.map lineP).drop at_) H2 (efg.trans e2) (hgl.ins (line_free pp) (by omega) at_ (by omega))
          rw [List.map_append, List.map_append, List.map_take, List.map_drop] at this
          exact this
        have efg := ef.trans eg
        refine s_if (ty 2 Hg) (fun _ Hh eh => ?_) (fun z2 Hh eh => ?_)
        · have efh := efg.trans eh
          have sh := se.up efh
          have hpk := ex_pick (K := K) (D := D) (n := 0) (i := 1) (σ := [some (.ref a), some (.ref d), some (.int (i : Int)), some (.int (m : Int)), some y, some vp, x6, some (.ref pl), x8, x9, some (.str (textP ps)), some (.int (jl : Int)), some (.int (at_ : Int)), some (.int wy), some (.ref pw), some (.int (sp : Int)), some (.str od), some (.ref pm), x18, x19, x20, x21, x22]) (H := Hh) (E := L2.E0) (L := fun ds => ds = putL.map .str) rfl (el_N (en_D (en_lst (K := K) (ds := putL.map .str) (ed_strs (ss := putL) (ea_cons ev_c (ea_cons ev_c (ea_cons ev_c (ea_cons ev_c (ea_cons ev_c (ea_cons ev_c ea_nil))))))) (by show 6 ≤ 100000; decide)))) (fun ds e => by subst e; exact ⟨by show 0 < 6; decide, by show 6 < 1000000; decide⟩)
          refine s_ins9 (xs := (ps.map lineP).map V.str) (k := at_) (fun y' H2 => ∃ w ∈ putL, y' = .str w ∧ ST D H2 (i * 5000 + 2500 + jl * 100 + 10) ∧ Kx D.d D.g Hh H2) (efh _ _ hm0) (ev_var rfl) (ev_var rfl) (by omega) (by omega) (fun H1 e1 Q1 q1 => hpk H1 _ (Kx.ex e1) (sh.up e1) (by omega) Q1 fun v2 H2 dd2 k2 s2' hv2 ⟨ds2, e2, hd2⟩ => by
            subst e2
            obtain ⟨w, hw, rfl⟩ := List.mem_map.mp hd2
            have ev2 : v2 = .str w := by cases hv2; rfl
            subst ev2
            exact q1 _ H2 ⟨w, hw, rfl, s2'.mono (by omega), (Kx.ex e1).trans k2⟩ (k2 pm _ fm.1 fm.2.1 lst_nt ((efh.trans e1) _ _ hm0))) fun y' H2 ⟨w, hw, ey, s2', k2⟩ h2 => ?_
          subst ey
          obtain ⟨hw1, hw2⟩ := putL_ok w hw
          refine fin ((ps.map lineP).take at_ ++ [w] ++ (ps.map lineP).drop at_) _ (hgl.ins hw1 (by omega) at_ (by omega)) ?_ (s2'.own h2 fm.2.1 fm.2.2.1) (((Kx.ex (ee.trans efh)).trans k2).own (nw_none hpm))
          rw [upd_same, List.map_append, List.map_append, List.map_take, List.map_drop]
          rfl
        have efh := efg.trans eh
        have words : ∀ (ws : List Str), (∀ w ∈ ws, 10 ∉ tl w ∧ w.length ≤ 19) → ws.length ≤ 5 → ∀ Hk, Ex He Hk → ∀ {te : TE}, EvL te [some (.ref a), some (.ref d), some (.int (i : Int)), some (.int (m : Int)), some y, some vp, x6, some (.ref pl), x8, x9, some (.str (textP ps)), some (.int (jl : Int)), some (.int (at_ : Int)), some (.int wy), some (.ref pw), some (.int (sp : Int)), some (.str od), some (.ref pm), x18, x19, x20, x21, x22] Hk (ws.map V.str) → ∀ {En : Ends}, (∀ H', (∃ ss, GoodL ss ∧ H' pm = some (.lst (ss.map V.str)) ∧ ST D H' (i * 5000 + 2500 + jl * 100 + 10) ∧ Kx D.d D.g Hd H') → En.nx [some (.ref a), some (.ref d), some (.int (i : Int)), some (.int (m : Int)), some y, some vp, x6, some (.ref pl), x8, x9, some (.str (textP ps)), some (.int (jl : Int)), some (.int (at_ : Int)), some (.int wy), some (.ref pw), some (.int (sp : Int)), some (.str od), some (.ref pm), x18, x19, x20, x21, x22] H') →
            tAsg (tM1 (fun x xs H Q => ∃ a p, ∃ ys : List Str, x = .str a ∧ xs = [.ref p] ∧ (SqL K H p (ys.map V.str) ∨ SqT K H p (ys.map V.str)) ∧ (ys.map (·.length)).sum + ys.length * a.length ≤ 16777216 ∧ Q (.str (Txt.join a ys)) H) (tC (.str " ")) te) (gSub (tVar 17) (tVar 12) rSetL) En [some (.ref a), some (.ref d), some (.int (i : Int)), some (.int (m : Int)), some y, some vp, x6, some (.ref pl), x8, x9, some (.str (textP ps)), some (.int (jl : Int)), some (.int (at_ : Int)), some (.int wy), some (.ref pw), some (.int (sp : Int)), some (.str od), some (.ref pm), x18, x19, x20, x21, x22] Hk := fun ws hw1 hw2 Hk ek te hte En hEn => by
          refine s_set9 (xs := (ps.map lineP).map V.str) (k := at_) (y := .str (Txt.join " " ws)) (ek _ _ hm0) (ev_joinL ev_c hte (sum_words hw1 hw2)) (ev_var rfl) (ev_var rfl) (by omega) fun H2 e2 => ?_
          obtain ⟨o1, o2⟩ := words_ok hw1 hw2
          have := (mk ((ps.map lineP).set at_ (Txt.join " " ws)) H2 (ek.trans e2) (hgl.set o1 o2 at_)).2
          rw [List.map_set] at this
          exact hEn _ this
        have hdw : ∀ w ∈ [("place" : Str), numT pp.1, numT pp.2].drop (sp + 1), 10 ∉ tl w ∧ w.length ≤ 19 := fun w hw => hwo w (List.mem_of_mem_drop hw)
        have htw : ∀ w ∈ [("place" : Str), numT pp.1, numT pp.2].take sp, 10 ∉ tl w ∧ w.length ≤ 19 := fun w hw => hwo w (List.mem_of_mem_take hw)
        have ht3 : ([("place" : Str), numT pp.1, numT pp.2].take sp).length ≤ sp := by rw [List.length_take]; exact Nat.min_le_left _ _
        have hd3 : ([("place" : Str), numT pp.1, numT pp.2].drop (sp + 1)).length ≤ 2 - sp := by rw [List.length_drop]; show 3 - (sp + 1) ≤ 2 - sp; omega
        refine s_if (ty 3 Hh) (fun _ Hk ek => ?_) (fun z3 Hk ek => ?_)
        · have e := efh.trans ek
          refine words ([("place" : Str), numT pp.1, numT pp.2].take sp ++ [("place" : Str), numT pp.1, numT pp.2].drop (sp + 1)) (fun w hw => ?_) (by rw [List.length_append]; omega) Hk e (el_is (el_cat9 (w1 Hk e) (w2 Hk e) (by rw [List.length_map, List.length_map]; omega)) (by rw [List.map_append])) (fun H' h => ⟨rfl, h⟩)
          rcases List.mem_append.mp hw with hw | hw
          · exact htw w hw
          · exact hdw w hw
        · have e := efh.trans ek
          refine words ([("place" : Str), numT pp.1, numT pp.2].take sp ++ [od] ++ [("place" : Str), numT pp.1, numT pp.2].drop (sp + 1)) (fun w hw => ?_) (by rw [List.length_append, List.length_append, List.length_singleton]; omega) Hk e (el_is (el_cat9 (el_cat9 (w1 Hk e) (el_lst (ea_cons (ev_var rfl) ea_nil) (by show 1 ≤ 100000; decide)) (by rw [List.length_map]; show _ + 1 ≤ _; omega)) (w2 Hk e) (by rw [List.length_append, List.length_map, List.length_map]; show _ + 1 + _ ≤ _; omega)) (by rw [List.map_append, List.map_append]; rfl)) (fun H' h => ⟨rfl, h⟩)
          rcases List.mem_append.mp hw with hw | hw
          · rcases List.mem_append.mp hw with hw | hw
            · exact htw w hw
            · rw [List.mem_singleton.mp hw]
              exact hoo
          · exact hdw w hw
      · rintro _ Hf ⟨rfl, ss, hss, hmf, sf, kf⟩
        have hsumS := goodL_sum hss
        have hlenS := hss.len
        have hyf := netv_kst9 sd kf hyd
        obtain ⟨near, hnear⟩ : ∃ near, Txt.join "\n" ss = near := ⟨_, rfl⟩
        have hjl := join_len hss
        have hlj := lines_join hss.free
        rw [hnear] at hjl hlj
        obtain ⟨ls, hls⟩ : ∃ ls, linesT near = ls := ⟨_, rfl⟩
        rw [hls] at hlj
        show tSeq _ _ _ [some (.ref a), some (.ref d), some (.int (i : Int)), some (.int (m : Int)), some y, some vp, x6, some (.ref pl), x8, x9, some (.str (textP ps)), some (.int (jl : Int)), some (.int (at_ : Int)), some (.int wy), some (.ref pw), some (.int (sp : Int)), some (.str od), some (.ref pm), x18, x19, x20, x21, x22] Hf
        -- near, box
        refine q_parL9 (K := K) (i := 18) (j := 19) (ev_join (K := K) (σ := [some (.ref a), some (.ref d), some (.int (i : Int)), some (.int (m : Int)), some y, some vp, x6, some (.ref pl), x8, x9, some (.str (textP ps)), some (.int (jl : Int)), some (.int (at_ : Int)), some (.int wy), some (.ref pw), some (.int (sp : Int)), some (.str od), some (.ref pm), x18, x19, x20, x21, x22]) (H := Hf) (sep := "\n") (ss := ss) ev_c (ev_var (i := 17) rfl) hmf (by
          have : ("\n" : Str).length = 1 := by decide +kernel
          rw [this]
          omega)) fun H1 e1 bx hbx Hg e3 => ?_
        have s1' := sf.up e1
        have fbx := s1'.fresh (nw_none hbx)
        have e2 : Ex H1 (upd H1 bx (.lst [])) := Ex.new hbx
        have hb2 : upd H1 bx (.lst []) bx = some (.lst []) := upd_same
        generalize upd H1 bx (.lst []) = H2' at e2 hb2 e3
        have efg := (e1.trans e2).trans e3
        have hbg := e3 _ _ hb2
        have sg := sf.up efg
        have hyg := hyf.up efg
        have hmg := efg _ _ hmf
        rw [hnear]
        show tSeq _ _ _ [some (.ref a), some (.ref d), some (.int (i : Int)), some (.int (m : Int)), some y, some vp, x6, some (.ref pl), x8, x9, some (.str (textP ps)), some (.int (jl : Int)), some (.int (at_ : Int)), some (.int wy), some (.ref pw), some (.int (sp : Int)), some (.str od), some (.ref pm), some (.str near), some (.ref bx), x20, x21, x22] Hg
        -- due
        have hdue : Ev (tCall (spDue K) [] L2.E0 (tCons (tVar 3) (tCons (tIf (tTest (tOp rNe (tVar 18) (tC (.str "")))) (tVar 17) (tLst tNil)) tNil))) [some (.ref a), some (.ref d), some (.int (i : Int)), some (.int (m : Int)), some y, some vp, x6, some (.ref pl), x8, x9, some (.str (textP ps)), some (.int (jl : Int)), some (.int (at_ : Int)), some (.int wy), some (.ref pw), some (.int (sp : Int)), some (.str od), some (.ref pm), some (.str near), some (.ref bx), x20, x21, x22] Hg (.int (dueP m ls)) := fun Hh eh Q q => by
          have tt : ∀ b, (!decide (V.str near = V.str "")) = b → EvT (tTest (tOp rNe (tVar 18) (tC (.str "")))) [some (.ref a), some (.ref d), some (.int (i : Int)), some (.int (m : Int)), some y, some vp, x6, some (.ref pl), x8, x9, some (.str (textP ps)), some (.int (jl : Int)), some (.int (at_ : Int)), some (.int wy), some (.ref pw), some (.int (sp : Int)), some (.str od), some (.ref pm), some (.str near), some (.ref bx), x20, x21, x22] Hh b := fun b hb => et_is (et_test (ev_op (ev_var rfl) ev_c (rv_ne rfl))) hb
          by_cases hz : near = ""
          · subst hz
            rw [if_pos rfl] at hlj
            subst hlj
            refine ⟨_, rfl, tt false (by simp) Hh (Ex.refl _) _ fun Hi ei => ⟨by show 0 ≤ sizeLine; decide, fun l0 hl0 => ⟨m, l0, [], rfl, SqL.of upd_same, by show 0 ≤ 40000; decide, (fun l hl => by cases hl), fun H' e' => q H' (((ei.trans (Ex.new hl0))).trans e')⟩⟩⟩
          · rw [if_neg hz] at hlj
            subst hlj
            refine ⟨_, rfl, tt true (by simp [hz]) Hh (Ex.refl _) _ fun Hi ei => ⟨_, rfl, m, pm, ls, rfl, SqL.of ((eh.trans ei) _ _ hmg), by omega, fun l hl => Nat.le_trans (hss.sz l hl) (by decide), fun H' e' => q H' (ei.trans e')⟩⟩
        refine q_asg hdue fun Hh eh => ?_
        have sh := sg.up eh
        have hyh := hyg.up eh
        have hbh := eh _ _ hbg
        have khH : Kx D.d D.g H10 Hh := ((((((kL.trans ka).trans (Kx.ex eb)).trans kc).trans kd).trans kf).trans (Kx.ex efg)).trans (Kx.ex eh)
        show tSeq _ _ _ [some (.ref a), some (.ref d), some (.int (i : Int)), some (.int (m : Int)), some y, some vp, x6, some (.ref pl), x8, x9, some (.str (textP ps)), some (.int (jl : Int)), some (.int (at_ : Int)), some (.int wy), some (.ref pw), some (.int (sp : Int)), some (.str od), some (.ref pm), some (.str near), some (.ref bx), some (.int (dueP m ls)), x21, x22] Hh
        by_cases hz : dueP m ls = -1
        · obtain ⟨g1, g2'⟩ := due_good hz
          obtain ⟨g3, g4⟩ := text_back g2'
          have hnz : near ≠ "" := fun z => by
            rw [if_pos z] at hlj
            rw [hlj] at g1
            simp at g1
            omega
          rw [if_neg hnz] at hlj
          have htx : textP (ls.filterMap placeP) = near := by
            unfold textP
            rw [g3, hlj, hnear]
          have hpl : (ls.filterMap placeP).length = m := by
            rw [← g1, ← List.length_map (f := lineP), g3]
          -- caught
          refine ⟨sh.2.1, fun Hi ei Ti => ?_⟩
          have hbi : Hi bx = some (.lst []) := ExtN.lst ei hbh
          have hyi := hyh.xn ei
          refine ⟨_, rfl, Or.inl ⟨rfl, _, SqL.of hbi⟩, _, rfl, _, rfl, y, _, rfl, .inr ⟨m, ks, hyi, m2, .inr ⟨near, rfl, by omega, fun z => absurd (by rw [hls]; exact hz) z, fun _ u Hj ej hu => ?_⟩⟩⟩
          rw [hls] at hu
          have hbj := ej _ _ hbi
          refine ⟨bx, [], u, rfl, rfl, hbj, by show 0 < sizeLine; decide, .non, rfl, ?_⟩
          have huk : Dq K (upd Hj bx (.lst [u])) u (.tuple ((ls.filterMap placeP).map prD)) := dq_own9 hbj hu
          have sk : ST D (upd Hj bx (.lst [u])) (i * 5000 + 2500 + jl * 100 + 10) := ((sh.xn ei Ti).up ej).own hbj fbx.2.1 fbx.2.2.1
          have kk : Kx D.d D.g H10 (upd Hj bx (.lst [u])) := ((khH.trans (Kx.xn ei)).trans (Kx.ex ej)).own (nw_back s1' ((((((kL.trans ka).trans (Kx.ex eb)).trans kc).trans kd).trans kf).trans (Kx.ex e1)) (nw_none hbx))
          have hbk : upd Hj bx (.lst [u]) bx = some (.lst [u]) := upd_same
          have hyk : NetV K C (upd Hj bx (.lst [u])) y (m : Int) ks := netv_own9 hbj (hyi.up ej)
          refine g_nm9 ?_
          show tSeq (tIfS _ _ _) _ _ [some (.ref a), some (.ref d), some (.int (i : Int)), some (.int (m : Int)), some y, some vp, x6, some (.ref pl), x8, x9, some (.str (textP ps)), some (.int (jl : Int)), some (.int (at_ : Int)), some (.int wy), some (.ref pw), some (.int (sp : Int)), some (.str od), some (.ref pm), some (.str near), some (.ref bx), some (.int (dueP m ls)), some .non, x22] (upd Hj bx (.lst [u]))
          generalize upd Hj bx (.lst [u]) = Hk at huk sk kk hbk hyk ⊢
          have px3 : Ev (tCall (spPtx K C CN CP) [] L2.E0 (tCons (tVar 4) (tCons (tOp (rIxL K) (tVar 19) (tC (.int 0))) tNil))) [some (.ref a), some (.ref d), some (.int (i : Int)), some (.int (m : Int)), some y, some vp, x6, some (.ref pl), x8, x9, some (.str (textP ps)), some (.int (jl : Int)), some (.int (at_ : Int)), some (.int wy), some (.ref pw), some (.int (sp : Int)), some (.str od), some (.ref pm), some (.str near), some (.ref bx), some (.int (dueP m ls)), some .non, x22] Hk (.str near) := ev_call (ea_cons (ev_var rfl) (ea_cons (ev_op (ev_var (i := 19) rfl) ev_c (rv_ixL (K := K) (SqL.of hbk) (atI_nat (j := 0) rfl))) ea_nil)) fun H9 e9 Q9 q9 E9 => ⟨y, u, rfl, .inr ⟨m, ks, ls.filterMap placeP, hyk.up e9, m2, huk.up e9, hpl, g4, fun H10 e10 => by rw [htx]; exact q9 H10 e10⟩⟩
          have nn : Ev (tNotN (tVar 21)) [some (.ref a), some (.ref d), some (.int (i : Int)), some (.int (m : Int)), some y, some vp, x6, some (.ref pl), x8, x9, some (.str (textP ps)), some (.int (jl : Int)), some (.int (at_ : Int)), some (.int wy), some (.ref pw), some (.int (sp : Int)), some (.str od), some (.ref pm), some (.str near), some (.ref bx), some (.int (dueP m ls)), some .non, x22] Hk (.bl false) := fun H9 e9 Q9 q9 => ⟨_, rfl, q9 H9 (Ex.refl _)⟩
          refine q_when (b := false) (et_is (et_and (b := false) (et_test (ev_op (ev_var rfl) (ev_un ev_c ru_neg) (rv_eq rfl))) (fun _ => et_is (et_or (et_test nn) (fun _ => et_test (ev_op px3 (ev_var rfl) (rv_ne rfl)))) (by simp))) (Bool.and_false _)) (fun z => by cases z) (fun _ Hl el => ?_)
          refine s_when (b := false) (et_is (et_and (a := false) (b := false) (et_is (et_test (ev_op (ev_var (i := 20) (v := .int (dueP m ls)) rfl) (ev_un ev_c ru_neg) (rv_ne rfl))) (by rw [hz]; decide)) (fun z => by cases z)) rfl) (fun z => by cases z) (fun _ Hm em => ?_)
          exact ⟨_, _, _, _, _, _, _, _, _, _, _, _, rfl, ((sk.up el).up em).mono (by omega), (kk.trans (Kx.ex el)).trans (Kx.ex em)⟩
        · refine ⟨sh.2.1, fun Hi ei Ti => ?_⟩
          have hbi : Hi bx = some (.lst []) := ExtN.lst ei hbh
          have hyi := hyh.xn ei
          refine ⟨_, rfl, Or.inl ⟨rfl, _, SqL.of hbi⟩, _, rfl, _, rfl, y, _, rfl, .inr ⟨m, ks, hyi, m2, .inr ⟨near, rfl, by omega, fun _ => ?_, fun z => absurd (by rw [← hls]; exact z) hz⟩⟩⟩
          intro Hj dd ej hdd
          refine ⟨(xE CT (.inr (.inr rfl))).1, fun ae hae => ?_⟩
          have e4 : Ex Hj (upd Hj dd (.xd [("line", .int (dueP m (linesT near)))])) := Ex.new hdd
          have h4 : upd Hj dd (.xd [("line", .int (dueP m (linesT near)))]) dd = some (.xd [("line", .int (dueP m (linesT near)))]) := upd_same
          generalize upd Hj dd (.xd [("line", .int (dueP m (linesT near)))]) = Hj2 at e4 h4 hae ⊢
          have e5 : Ex Hj2 (upd Hj2 ae (ExK (.ref CT) (some dd) ae)) := Ex.new hae
          have held : HeldT K CT (upd Hj2 ae (ExK (.ref CT) (some dd) ae)) (.ref ae) (dueP m ls) := ⟨ae, dd, rfl, upd_same, by rw [← hls]; exact e5 _ _ h4⟩
          have sk := (((sh.xn ei Ti).up ej).up e4).up e5
          have kk := (((khH.trans (Kx.xn ei)).trans (Kx.ex ej)).trans (Kx.ex e4)).trans (Kx.ex e5)
          refine g_nm9 ?_
          show tSeq (tIfS _ _ _) _ _ [some (.ref a), some (.ref d), some (.int (i : Int)), some (.int (m : Int)), some y, some vp, x6, some (.ref pl), x8, x9, some (.str (textP ps)), some (.int (jl : Int)), some (.int (at_ : Int)), some (.int wy), some (.ref pw), some (.int (sp : Int)), some (.str od), some (.ref pm), some (.str near), some (.ref bx), some (.int (dueP m ls)), some (.ref ae), x22] (upd Hj2 ae (ExK (.ref CT) (some dd) ae))
          generalize upd Hj2 ae (ExK (.ref CT) (some dd) ae) = Hk at held sk kk ⊢
          refine q_when (b := false) (et_is (et_and (a := false) (b := false) (et_is (et_test (ev_op (ev_var (i := 20) (v := .int (dueP m ls)) rfl) (ev_un ev_c ru_neg) (rv_eq rfl))) (by simp [hz])) (fun z => by cases z)) rfl) (fun z => by cases z) (fun _ Hl el => ?_)
          have held2 := held.up el
          have dbig : (dueP m ls).natAbs < 2 ^ 1000 := due_big (by rw [hlj]; split <;> first | (show 0 ≤ 1000; decide) | omega)
          refine s_when (b := false) (et_is (et_and (b := false) (et_test (ev_op (ev_var (i := 20) (v := .int (dueP m ls)) rfl) (ev_un ev_c ru_neg) (rv_ne rfl))) (fun _ => et_is (et_or (a := false) (b := false) (et_is (et_not (et_test (ev_isHeld (ev_var (i := 21) rfl) held2 (xE CT (.inr (.inr rfl))).2))) rfl) (fun _ => et_is (et_test (ev_op (ev_reprI (ev_line (ev_var (i := 21) rfl) held2 hXf hno) dbig) (ev_reprI (ev_var (i := 20) rfl) dbig) (rv_ne rfl))) (by simp))) rfl)) (Bool.and_false _)) (fun z => by cases z) (fun _ Hm em => ?_)
          exact ⟨_, _, _, _, _, _, _, _, _, _, _, _, rfl, ((sk.up el).up em).mono (by omega), (kk.trans (Kx.ex el)).trans (Kx.ex em)⟩
    · rintro σ' HZ ⟨x11, x12, x13, x14, x15, x16, x17, x18, x19, x20, x21, x22, rfl, sZ, kZ⟩
      have hyZ := netv_kst9 s10 kZ hy10
      have hLZ : HZ pl = some (.lst ((ps.map lineP).map V.str)) := kZ pl _ f7.1 f7.2.1 lst_nt h10
      have sZ := sZ.mono (show i * 5000 + 2500 + 10 * 100 ≤ i * 5000 + 3500 by omega)
      show tSeq _ _ _ [some (.ref a), some (.ref d), some (.int (i : Int)), some (.int (m : Int)), some y, some vp, x6, some (.ref pl), x8, x9, some (.str (textP ps)), x11, x12, x13, x14, x15, x16, x17, x18, x19, x20, x21, x22] HZ
      -- odd
      obtain ⟨⟨s9', hs9, t0', t1'⟩, hT9, hS9⟩ := id sZ
      refine ⟨_, rfl, D.d, D.g, D.c, s9', rfl, hs9, t0', by omega, fun HY s2 xo st2 c2 l2 u2 kp2 hno2 => ?_⟩
      have sY : ST D HY (i * 5000 + 3501) := sZ.kp kp2 st2 (by omega) (by omega)
      have hyY := netv_kst9 sZ (Kx.kp kp2) hyZ
      have hLY := Kx.kp kp2 pl _ f7.1 f7.2.1 lst_nt hLZ
      refine g_nm9 ?_
      let FF : Hp → Prop := fun H' => ST D H' (i * 5000 + 3501) ∧ NetV K C H' y (m : Int) ks ∧ (∀ H2, Kx D.d D.g H' H2 → NoInst K C H2 xo) ∧ H' pl = some (.lst ((ps.map lineP).map V.str))
      have FFx : ∀ {H1 H2}, ExtN H1 H2 → Tabs TT H2 → FF H1 → FF H2 := fun {H1 H2} e t h => ⟨h.1.xn e t, h.2.1.xn e, fun H3 k => h.2.2.1 H3 ((Kx.xn e).trans k), ExtN.lst e h.2.2.2⟩
      have FFu : ∀ {H1 H2}, Ex H1 H2 → FF H1 → FF H2 := fun {H1 H2} e h => FFx (fun b o hb _ => e b o hb) (h.1.2.1.ext e) h
      have FFY : FF HY := ⟨sY, hyY, hno2, hLY⟩
      show tSeq (tFor _ _ _) _ _ [some (.ref a), some (.ref d), some (.int (i : Int)), some (.int (m : Int)), some y, some vp, x6, some (.ref pl), x8, x9, some (.str (textP ps)), x11, x12, x13, x14, x15, some xo, x17, x18, x19, x20, x21, x22] HY
      have allA : ∀ (n : Nat) (mk : Addr → LO), ([A0.lo, A1.lo] : List (Addr → LO))[n]? = some mk → ∃ G ∈ [A0, A1], G.lo = mk ∧ ∀ (H' : Hp) (E : XK) (Q : VK) (z : Option V), FF H' → (∀ H2, Ex H' H2 → E (.ref CN) none H2) → G.t E [some (.ref a), some (.ref d), some (.int (i : Int)), some (.int (m : Int)), some y, some vp, x6, some (.ref pl), x8, x9, some (.str (textP ps)), x11, x12, x13, x14, x15, some xo, x17, x18, x19, x20, x21, z] H' Q := fun n mk hmk => by
        match n, hmk with
        | 0, hmk => exact ⟨A0, .head _, Option.some.inj hmk, fun H' E Q z hF hE => ⟨_, rfl, xo, _, rfl, .inl (.inl ⟨fun H2 e => hF.2.2.1 H2 (Kx.ex e), hE⟩)⟩⟩
        | 1, hmk => exact ⟨A1, .tail _ (.head _), Option.some.inj hmk, fun H' E Q z hF hE => ⟨_, rfl, xo, _, rfl, .inl ⟨fun H2 e => hF.2.2.1 H2 (Kx.ex e), hE⟩⟩⟩
      refine q_forLams9 (K := K) (T := TT) (q := X.env.qual ++ "<lambda>") (mks := [A0.lo, A1.lo]) (by show 2 ≤ 1000; decide) FFY.1.2.1 (fun p fs n σ' H' => ∃ z, σ' = [some (.ref a), some (.ref d), some (.int (i : Int)), some (.int (m : Int)), some y, some vp, x6, some (.ref pl), x8, x9, some (.str (textP ps)), x11, x12, x13, x14, x15, some xo, x17, x18, x19, x20, x21, z] ∧ FF H' ∧ LamsAt H' (X.env.qual ++ "<lambda>") [A0.lo, A1.lo] fs ∧ H' p = some (.lst (fs.map V.ref)))
        (fun p fs H1 e1 t1 h1 hp => ⟨x22, rfl, FFx e1 t1 FFY, h1, hp⟩) (fun p fs n σ' H' h => by
          obtain ⟨_, _, _, _, h⟩ := h
          exact h) ?_ ?_
      · rintro p fs n x σ' H' hx ⟨z, rfl, hF, hL', hp⟩
        obtain ⟨mk, f', c', hmk, rfl, hf', hc'⟩ := hL'.at_ n x hx
        obtain ⟨Gm, hGm, rfl, hpr⟩ := allA n mk hmk
        refine s_caughtN (K := K) (DE := DE) (CE := CN) (F := Gm) (f := f') (c' := c') (fun H2 => Ex H' H2) hGm rfl hc' hf' (xE CN (.inl rfl)).1 (xE CN (.inl rfl)).2 (fun E Q hE => hpr H' E Q (some (.ref f')) hF fun H2 e => hE H2 e) (fun H2 H3 r e3 => ?_)
        have r3 := Ex.trans r e3
        exact ⟨_, rfl, FFu r3 hF, hL'.xn (fun b o h _ => r3 b o h), r3 _ _ hp⟩
      · rintro p fs n σ' HX ⟨z, rfl, hF, _, _⟩
        show tSeq (tIfS _ _ _) _ _ [some (.ref a), some (.ref d), some (.int (i : Int)), some (.int (m : Int)), some y, some vp, x6, some (.ref pl), x8, x9, some (.str (textP ps)), x11, x12, x13, x14, x15, some xo, x17, x18, x19, x20, x21, z] HX
        refine q_caught9 (K := K) (T := TT) (DE := DE) (CE := CP) (fun _ H2 => ST D H2 (i * 5000 + 3502) ∧ NetV K C H2 y (m : Int) ks ∧ H2 pl = some (.lst ((ps.map lineP).map V.str))) hF.1.2.1 (xE CP (.inr (.inl rfl))).1 (xE CP (.inr (.inl rfl))).2 (fun H1 e1 T1 E Q hE => ?_) (fun H1 H2 HW e1 T1 r e3 => ?_)
        · have h1 := FFx e1 T1 hF
          obtain ⟨⟨sa, hsa, ta0, ta1⟩, hTa, hSa⟩ := id h1.1
          refine ⟨_, rfl, _, rfl, _, rfl, D.d, D.g, D.c, sa, m, rfl, m1, m2, hsa, ta0, by omega, fun H' s' v o st' c' l' u' kp' har hok => ⟨y, v, rfl, .inl (.inr ⟨(m : Int), ks, o, netv_kst9 h1.1 (Kx.kp kp') h1.2.1, har.ar, hok, fun H4 e4 => hE H4 ⟨?_, ?_, ?_⟩⟩)⟩⟩
          · exact (h1.1.kp kp' st' (by omega) (by omega)).up e4
          · exact (netv_kst9 h1.1 (Kx.kp kp') h1.2.1).up e4
          · exact e4 _ _ (Kx.kp kp' pl _ f7.1 f7.2.1 lst_nt h1.2.2.2)
        · obtain ⟨sW, hyW, hLW⟩ := r
          have sW := sW.up e3
          have hyW := hyW.up e3
          have hLW := e3 _ _ hLW
          show tSeq _ _ _ [some (.ref a), some (.ref d), some (.int (i : Int)), some (.int (m : Int)), some y, some vp, x6, some (.ref pl), x8, x9, some (.str (textP ps)), x11, x12, x13, x14, x15, some xo, x17, x18, x19, x20, x21, z] HW
          refine ⟨sW.2.1, fun HV eV TV => ?_⟩
          have sV := sW.xn eV TV
          have hyV := hyW.xn eV
          have hLV : HV pl = some (.lst ((ps.map lineP).map V.str)) := ExtN.lst eV hLW
          have dpl : Dq K (Vw D HV) (.ref pl) (.list ((ps.map lineP).map .str)) := .lst (SqL.of (vw_get f7.1 f7.2.1 f7.2.2.2 hLV lst_nt)) (dq_strs _)
          refine ⟨_, rfl, ex_pick (K := K) (D := D) (n := 0) (i := 1) (E := L2.E0) (L := fun ds => ds = [.none, .int 5, .list ((ps.map lineP).map .str), .tuple [], .bool true]) rfl (el_N (en_D (en_lst (ead_cons (ed_non ev_c) (ead_cons (ed_int ev_c) (ead_cons (ed_var (i := 7) rfl dpl) (ead_cons (ed_tup ead_nil (by show 0 ≤ 100000; decide)) (ead_cons (ed_bl ev_c) ead_nil))))) (by show 5 ≤ 100000; decide)))) (fun ds e => by subst e; exact ⟨by show 0 < 5; decide, by show 5 < 1000000; decide⟩) HV _ Kx.refl sV (by omega) _ fun vo HU dd kU sU hvo ⟨ds, eds, hdd⟩ => ?_⟩
          subst eds
          have hns : isStrD dd = false := by
            simp only [List.mem_cons, List.not_mem_nil, or_false] at hdd
            rcases hdd with rfl | rfl | rfl | rfl | rfl <;> rfl
          refine ⟨y, vo, rfl, .inr ⟨m, ks, netv_kst9 sV kU hyV, m2, .inl ⟨dd, hvo.up vw_ex, hns, ?_⟩⟩⟩
          intro Hj dd ej hdd
          refine ⟨(xE CT (.inr (.inr rfl))).1, fun ae hae => ?_⟩
          have e4 : Ex Hj (upd Hj dd (.xd [("line", .int 0)])) := Ex.new hdd
          have h4 : upd Hj dd (.xd [("line", .int 0)]) dd = some (.xd [("line", .int 0)]) := upd_same
          generalize upd Hj dd (.xd [("line", .int 0)]) = Hj2 at e4 h4 hae ⊢
          have e5 : Ex Hj2 (upd Hj2 ae (ExK (.ref CT) (some dd) ae)) := Ex.new hae
          have held : HeldT K CT (upd Hj2 ae (ExK (.ref CT) (some dd) ae)) (.ref ae) 0 := ⟨ae, dd, rfl, upd_same, e5 _ _ h4⟩
          have sk := ((sU.up ej).up e4).up e5
          refine g_nm9 (tz := tIfS _ _ _) ?_
          show tIfS _ _ _ _ [some (.ref a), some (.ref d), some (.int (i : Int)), some (.int (m : Int)), some y, some vp, x6, some (.ref pl), x8, x9, some (.str (textP ps)), x11, x12, x13, x14, x15, some xo, x17, x18, x19, x20, some (.ref ae), z] (upd Hj2 ae (ExK (.ref CT) (some dd) ae))
          generalize upd Hj2 ae (ExK (.ref CT) (some dd) ae) = Hk at held sk ⊢
          refine s_when (b := false) (et_is (et_or (a := false) (b := false) (et_is (et_not (et_test (ev_isHeld (ev_var (i := 21) rfl) held (xE CT (.inr (.inr rfl))).2))) rfl) (fun _ => et_is (et_test (ev_op (ev_reprI (ev_line (ev_var (i := 21) rfl) held hXf hno) (by decide +kernel)) (ev_c (v := .str "0")) (rv_ne rfl))) (by
            have : numT 0 = "0" := by decide +kernel
            rw [this]
            simp))) rfl) (fun z => by cases z) (fun _ Hm em => ?_)
          exact ⟨_, _, _, _, _, _, _, _, _, _, _, _, _, _, _, _, _, _, _, _, _, rfl, (sk.up em).mono (by omega)⟩
end
end My
namespace My
open PySem PySem.Spec PyProof.Rows L2 He LamX
def Pl : Defn := ("law", none)
theorem facts90 {P : Program} {w : World} {K : PySem.W.Frag} {h : Heap} {mg : Str → Option Value} {f : Addr} (hPf : ((P.main.file : Str) == ("/claim/cut.py" : Str)) = true) (hPt : (P.main.scope.names.lookup ("super" : Str)).isSome = false) (X : K.In h) (G : h.Ns mainGlobals mg) (hfa : mg ("law" : Str) = some (.ref f)) (cI : SaysI faL fnD tabF exA iniD w h K) :
    ∃ fd : FuncData, (∀ (s : Shared) (v : Value), BindsTo s fd ⟨[v], []⟩ [("script", v)]) ∧ ∀ base : Heap, K.In base → base.Ns mainGlobals mg → (∀ p ∈ [cT K Pl], TabB base mg p.1 p.2) → FnOkG P w K mg base CX0 9 f fd ["script"] (spLaw90 K (cT K Pl).2) := by
  have c : SaysL w h K := cI.x
  obtain ⟨⟨d_is_whole, F_is_whole⟩, g_is_whole⟩ := hd_is_whole c X G
  obtain ⟨⟨d_is_number, F_is_number⟩, g_is_number⟩ := hd_is_number c X G
  obtain ⟨⟨d_is_rising, F_is_rising⟩, g_is_rising⟩ := hd_is_rising c X G
  obtain ⟨⟨d_is_pair_of, F_is_pair_of⟩, g_is_pair_of⟩ := hd_is_pair_of c X G
  obtain ⟨⟨d_need_net, F_need_net⟩, g_need_net⟩ := hd_need_net c X G
  obtain ⟨⟨d_are_places, F_are_places⟩, g_are_places⟩ := hd_are_places c X G
  obtain ⟨⟨d_is_place, F_is_place⟩, g_is_place⟩ := hd_is_place c X G
  obtain ⟨⟨d_need_places, F_need_places⟩, g_need_places⟩ := hd_need_places c X G
  obtain ⟨⟨d_places_text, F_places_text⟩, g_places_text⟩ := hd_places_text c X G
  obtain ⟨⟨d_number_of, F_number_of⟩, g_number_of⟩ := hd_number_of c X G
  obtain ⟨⟨d_lines_of, F_lines_of⟩, g_lines_of⟩ := hd_lines_of c X G
  obtain ⟨⟨d_numbers_behind, F_numbers_behind⟩, g_numbers_behind⟩ := hd_numbers_behind c X G
  obtain ⟨⟨d_places_of_text, F_places_of_text⟩, g_places_of_text⟩ := hd_places_of_text c X G
  obtain ⟨⟨d_law_begun, F_law_begun⟩, g_law_begun⟩ := hd_law_begun c X G
  obtain ⟨⟨d_law_blended, F_law_blended⟩, g_law_blended⟩ := hd_law_blended c X G
  obtain ⟨⟨d_law_draw, F_law_draw⟩, g_law_draw⟩ := hd_law_draw c X G
  obtain ⟨⟨d_law_pick, F_law_pick⟩, g_law_pick⟩ := hd_law_pick c X G
  obtain ⟨⟨d_law_mixed, F_law_mixed⟩, g_law_mixed⟩ := hd_law_mixed c X G
  obtain ⟨⟨d_law_caught, F_law_caught⟩, g_law_caught⟩ := hd_law_caught c X G
  obtain ⟨⟨d_law_nt_ties, F_law_nt_ties⟩, g_law_nt_ties⟩ := hd_law_nt_ties c X G
  obtain ⟨⟨d_law_nt_no_net, F_law_nt_no_net⟩, g_law_nt_no_net⟩ := hd_law_nt_no_net c X G
  obtain ⟨⟨d_law_st_no_places, F_law_st_no_places⟩, g_law_st_no_places⟩ := hd_law_st_no_places c X G
  obtain ⟨⟨d_law_k90_number, F_law_k90_number⟩, g_law_k90_number⟩ := hd_law_k90_number c X G
  obtain ⟨⟨d_law_k90_due, F_law_k90_due⟩, g_law_k90_due⟩ := hd_law_k90_due c X G
  obtain ⟨⟨d_law, F_law⟩, g_law⟩ := hd_law c X G
  obtain ⟨d_Net_init, F_Net_init⟩ := hd_Net_init c
  have ck : CkB mg := ⟨fr_isinstance c X G, fr_int c X G, fr_bool c X G, fr_tuple c X G, fr_all c X G, fr_len c X G, fr_zip c X G⟩
  have ty : TyB mg := ⟨fr_range c X G, fr_tuple c X G, fr_sorted c X G⟩
  have mx : MxB mg := ⟨fr_list c X G, fr_len c X G⟩
  have dr : DrB mg := ⟨fr_abs c X G, fr_int c X G, fr_len c X G⟩
  have nmB : NmB mg := ⟨fr_isinstance c X G, fr_int c X G, fr_bool c X G, fr_tuple c X G, fr_all c X G, fr_len c X G, fr_zip c X G, fr_sorted c X G, fr_set c X G, fr_list c X G, fr_range c X G, fr_min c X G, fr_max c X G⟩
  have gi : mg "isinstance" = none := fr_isinstance c X G
  have gS : mg "str" = none := fr_str c X G
  have gE : mg "enumerate" = none := fr_enumerate c X G
  have gAb : mg "abs" = none := fr_abs c X G
  obtain ⟨gNet, clN⟩ := cl_Net c X G
  have nt : NtF K mg (ga K "Net") (ma K (ga K "Net") "__init__") := ⟨clN, na_Net_many c, na_Net_ties c, mk_Net c, gNet, ct_MOST_POINTS c X G⟩
  have mp : ∃ t, mg nMostPlace = some (.int 1000000 t) := ct_MOST_PLACE_straight c X G
  obtain ⟨tM, mt⟩ := ct_MOST_PLACE_texts c X G
  obtain ⟨tD, md⟩ := ct_DIGITS c X G
  obtain ⟨x1, x2, x3, _, x5⟩ := ex_A c
  obtain ⟨i1, i2⟩ := ins_I c (x := "Net") (by decide +kernel)
  have insN : InsF K (ga K "Net") := ⟨i1, x1, x2, i2⟩
  have nobN : NoB K (ga K "Net") = true := x5 "Net" (by decide +kernel)
  obtain ⟨gBadNet, ⟨BadNet1, BadNet2, BadNet3, BadNet4⟩, BadNet5⟩ := er_BadNet c X G
  obtain ⟨gBadPlaces, ⟨BadPlaces1, BadPlaces2, BadPlaces3, BadPlaces4⟩, BadPlaces5⟩ := er_BadPlaces c X G
  obtain ⟨gDE, _, _⟩ := er_DrawError c X G
  have xBadNet : ExF K mg "BadNet" (ga K "BadNet") := ⟨gBadNet, BadNet1, BadNet2, BadNet3, BadNet4⟩
  have cBadNet : ExcC K (ga K "BadNet") := exc_C c (by decide +kernel) BadNet3
  have xBadPlaces : ExF K mg "BadPlaces" (ga K "BadPlaces") := ⟨gBadPlaces, BadPlaces1, BadPlaces2, BadPlaces3, BadPlaces4⟩
  have cBadPlaces : ExcC K (ga K "BadPlaces") := exc_C c (by decide +kernel) BadPlaces3
  obtain ⟨gBadText, iT⟩ := in_BadText cI X G
  have cBadText : ExcC K (ga K "BadText") := exc_C c (by decide +kernel) iT.sb
  have xfT : XfC K (ga K "BadText") := ⟨cBadText.hg, cBadText.hk, cBadText.hs, cBadText.hd⟩
  have sup : SupM P mg "/claim/cut.py" "line" := ⟨fr_super c X G, hPf, hPt, by decide +kernel, by decide +kernel, by decide +kernel, by decide +kernel⟩
  have xE : ∀ x, x = ga K "BadNet" ∨ x = ga K "BadPlaces" ∨ x = ga K "BadText" → PySem.W.exmOne K (.ref x) (.ref (ga K "DrawError")) = some true ∧ ExcC K x := fun x hx => by
    rcases hx with rfl | rfl | rfl
    · exact ⟨BadNet5, cBadNet⟩
    · exact ⟨BadPlaces5, cBadPlaces⟩
    · exact ⟨xm_BadText c, cBadText⟩
  have e := hfa.symm.trans g_law
  cases e
  obtain ⟨cdL, hcdL, hcdI⟩ : ∃ cdL : Addr, d_law.code = .ref cdL ∧ codeOf K Pl = cdL := by
    obtain ⟨oc, od, kV, doc, pm, an, cdv, ct, osl, rfl, lk, hcd⟩ := F_law.ex
    obtain ⟨cc, rfl⟩ := codeIn_ref hcd
    exact ⟨cc, rfl, codeOf_eq (p := ("law", none)) lk rfl⟩
  refine ⟨d_law, fun s v => ?_, fun base _ _ hTB => ?_⟩
  · obtain ⟨oc, od, kV, doc, pm, an, cdv, ct, osl, rfl, lk, hcd⟩ := F_law.ex
    exact BindsTo.of_eq rfl
  have tb : TabB base mg cdL (cT K Pl).2 := by
    have := hTB (cT K Pl) List.mem_cons_self
    rw [← hcdI]
    exact this
  have qI : FnOk P w K mg base CX0 4 (ma K (ga K "Net") "__init__") d_Net_init ["self", "many", "ties"] (spNetI K (ga K "Net")) := by apply ok_netI F_Net_init ck nt F_is_pair_of g_is_pair_of <;> assumption
  have bI : L2.Binds K d_Net_init ["self", "many", "ties"] [] := F_Net_init.binds (ps := ["self", "many", "ties"]) fun _ _ _ _ _ _ us hl => match us, hl with | [_, _, _], _ => rfl
  have Ne : CalX P w K mg base (L2.CX P w) 1 "need_net" ["net"] (spNeed K (ga K "Net") (ga K "BadNet")) (ga K "need_net") d_need_net := ⟨ok_need F_need_net nt insN xBadNet gi, g_need_net, F_need_net.kp, F_need_net.binds (ps := ["net"]) fun _ _ _ _ _ _ us hl => match us, hl with | [_], _ => rfl⟩
  have Npl : CalX P w K mg base (L2.CX P w) 5 "need_places" ["net", "places"] (spNeedPl K (ga K "Net") (ga K "BadNet") (ga K "BadPlaces")) (ga K "need_places") d_need_places := ⟨ok_needPl F_need_places ck nt insN xBadNet xBadPlaces mp F_need_net g_need_net F_are_places g_are_places F_is_place g_is_place F_is_number g_is_number F_is_whole g_is_whole, g_need_places, F_need_places.kp, F_need_places.binds (ps := ["net", "places"]) fun _ _ _ _ _ _ us hl => match us, hl with | [_, _], _ => rfl⟩
  have Px : CalX P w K mg base (L2.CX P w) 6 "places_text" ["net", "places"] (spPtx K (ga K "Net") (ga K "BadNet") (ga K "BadPlaces")) (ga K "places_text") d_places_text := ⟨ok_ptx (fI := ga K "Net") F_places_text gS Ne Npl, g_places_text, F_places_text.kp, F_places_text.binds (ps := ["net", "places"]) fun _ _ _ _ _ _ us hl => match us, hl with | [_, _], _ => rfl⟩
  have Nu : CalX P w K mg base CX0 1 "number_of" ["word"] (spNum) (ga K "number_of") d_number_of := ⟨ok_num F_number_of nmB (fr_any c X G) gS md, g_number_of, F_number_of.kp, F_number_of.binds (ps := ["word"]) fun _ _ _ _ _ _ us hl => match us, hl with | [_], _ => rfl⟩
  have Ln : CalX P w K mg base (L2.CX P w) 3 "lines_of" ["text"] (spLines K (ga K "BadText")) (ga K "lines_of") d_lines_of := ⟨ok_lines F_lines_of nmB gS iT gBadText sup, g_lines_of, F_lines_of.kp, F_lines_of.binds (ps := ["text"]) fun _ _ _ _ _ _ us hl => match us, hl with | [_], _ => rfl⟩
  have Nb : CalX P w K mg base CX0 2 "numbers_behind" ["line", "name"] (spNb K) (ga K "numbers_behind") d_numbers_behind := ⟨ok_nb F_numbers_behind nmB Nu, g_numbers_behind, F_numbers_behind.kp, F_numbers_behind.binds (ps := ["line", "name"]) fun _ _ _ _ _ _ us hl => match us, hl with | [_, _], _ => rfl⟩
  have Po : CalX P w K mg base (L2.CX P w) 5 "places_of_text" ["net", "text"] (spPot K (ga K "Net") (ga K "BadNet") (ga K "BadText")) (ga K "places_of_text") d_places_of_text := ⟨ok_pot F_places_of_text nmB gE gAb nt mt iT gBadText sup Ne Ln Nb, g_places_of_text, F_places_of_text.kp, F_places_of_text.binds (ps := ["net", "text"]) fun _ _ _ _ _ _ us hl => match us, hl with | [_, _], _ => rfl⟩
  have kBe : CalX P w K mg base CX0 1 "_law_begun" ["script"] (spBegun K) (ga K "_law_begun") d_law_begun := ⟨ok_begun F_law_begun dr, g_law_begun, F_law_begun.kp, F_law_begun.binds (ps := ["script"]) fun _ _ _ _ _ _ us hl => match us, hl with | [_], _ => rfl⟩
  have kDr : CalX P w K mg base CX0 2 "_law_draw" ["state", "size_here"] (spDraw) (ga K "_law_draw") d_law_draw := ⟨ok_draw F_law_draw dr F_law_blended g_law_blended, g_law_draw, F_law_draw.kp, F_law_draw.binds (ps := ["state", "size_here"]) fun _ _ _ _ _ _ us hl => match us, hl with | [_, _], _ => rfl⟩
  have kPi : CalX P w K mg base CX0 3 "_law_pick" ["state", "several"] (spPick) (ga K "_law_pick") d_law_pick := ⟨ok_pick F_law_pick dr F_law_blended g_law_blended F_law_draw g_law_draw, g_law_pick, F_law_pick.kp, F_law_pick.binds (ps := ["state", "several"]) fun _ _ _ _ _ _ us hl => match us, hl with | [_, _], _ => rfl⟩
  have kTy : CalX P w K mg base CX0 4 "_law_nt_ties" ["state", "many", "most"] (spTies K) (ga K "_law_nt_ties") d_law_nt_ties := ⟨by apply ok_ties F_law_nt_ties dr mx ty F_law_blended g_law_blended <;> assumption, g_law_nt_ties, F_law_nt_ties.kp, F_law_nt_ties.binds (ps := ["state", "many", "most"]) fun _ _ _ _ _ _ us hl => match us, hl with | [_, _, _], _ => rfl⟩
  have kNn : CalX P w K mg base CX0 4 "_law_nt_no_net" ["state"] (spNoNet2 K (ga K "Net")) (ga K "_law_nt_no_net") d_law_nt_no_net := ⟨ok_noNet2 F_law_nt_no_net dr nobN F_law_blended g_law_blended F_law_draw g_law_draw F_law_pick g_law_pick, g_law_nt_no_net, F_law_nt_no_net.kp, F_law_nt_no_net.binds (ps := ["state"]) fun _ _ _ _ _ _ us hl => match us, hl with | [_], _ => rfl⟩
  have kNp : CalX P w K mg base CX0 4 "_law_st_no_places" ["state", "many"] (spNoPl K) (ga K "_law_st_no_places") d_law_st_no_places := ⟨ok_noPl F_law_st_no_places dr mx F_law_blended g_law_blended F_law_draw g_law_draw F_law_pick g_law_pick, g_law_st_no_places, F_law_st_no_places.kp, F_law_st_no_places.binds (ps := ["state", "many"]) fun _ _ _ _ _ _ us hl => match us, hl with | [_, _], _ => rfl⟩
  have kLn : CalX P w K mg base CX0 1 "_law_k90_number" ["word"] (spNum) (ga K "_law_k90_number") d_law_k90_number := ⟨ok_lnum F_law_k90_number nmB, g_law_k90_number, F_law_k90_number.kp, F_law_k90_number.binds (ps := ["word"]) fun _ _ _ _ _ _ us hl => match us, hl with | [_], _ => rfl⟩
  have kDu : CalX P w K mg base CX0 2 "_law_k90_due" ["many", "lines"] (spDue K) (ga K "_law_k90_due") d_law_k90_due := ⟨ok_due F_law_k90_due nmB gE gAb kLn, g_law_k90_due, F_law_k90_due.kp, F_law_k90_due.binds (ps := ["many", "lines"]) fun _ _ _ _ _ _ us hl => match us, hl with | [_, _], _ => rfl⟩
  exact ok_law90 F_law hcdL tb nmB gS (fr_repr c X G) insN xE (kit_0 c (x := "BadText") (by decide +kernel)) nt qI bI gBadNet gBadPlaces gBadText iT.at_.no xfT F_law_caught g_law_caught gDE kBe kPi kDr kTy Px (kb2 F_places_text fun _ _ _ _ _ _ _ _ => rfl) Po (kb2 F_places_of_text fun _ _ _ _ _ _ _ _ => rfl) kDu kNn kNp
end My
open PySem PySem.W PySem.Calls PyProof.Rows
theorem PySem.Challenge.cw_flatdrawn_k90_whole_texts_of_places_holds : PySem.Challenge.rw_flatdrawn_k90_whole_texts_of_places.Holds := by
  w_on; o_law
  refine HandSHeadRun.head_any (r := OpenLaw.row PySem.Challenge.rw_flatdrawn_k90_whole_texts_of_places) (q := view (OpenLaw.row PySem.Challenge.rw_flatdrawn_k90_whole_texts_of_places).prog [41]) (H := My.hk) (ob := My.ob) (M := 15000) (loose := My.looseN) (d := HandSHeadRun.topDef (OpenLaw.row PySem.Challenge.rw_flatdrawn_k90_whole_texts_of_places).prog 41) (kwd := []) My.ob_eq
    (by kernel_rfl) (fun s => by kernel_rfl) My.run (by kernel_rfl) (by kernel_rfl) (by kernel_rfl) (by rfl) (by first | assumption | decide +kernel) (by decide +kernel) ⟨rfl, rfl, rfl, rfl, rfl, by decide +kernel⟩ ?hw ?hc
  case hw => w_witness2
  case hc =>
    refine LamX.walk_ofTG (l := PySem.Challenge.rw_flatdrawn_k90_whole_texts_of_places) (n := 63) (k := 9) (x := "script") (CX := L2.CX0) rfl (by decide) (by kernel_rfl) ⟨rfl, by decide, by decide⟩ ?F (fun _ _ _ _ z => z)
    intro w mg fa h Y G hmg0
    obtain ⟨K, KX, c⟩ := Y
    have hmg : mg ("law" : PySem.Str) = some (.ref fa) := by
      have e : (HandSHeadRun.topDef (OpenLaw.row PySem.Challenge.rw_flatdrawn_k90_whole_texts_of_places).prog 41).name = ("law" : PySem.Str) := by kernel_rfl
      rw [← e]
      exact hmg0
    obtain ⟨fd, hb, hF⟩ := My.facts90 (P := (PySem.Challenge.rw_flatdrawn_k90_whole_texts_of_places).prog) (w := w) (by kernel_rfl) (by kernel_rfl) KX G hmg c
    have hin : My.Pl ∈ My.tabF := by decide +kernel
    refine ⟨K, KX, fd, [He.cT K My.Pl], My.spLaw90 K (He.cT K My.Pl).2, fun p hp => ?_, fun p hp => ?_, fun p hp => ?_, hb, fun H a ns hl hT hS => ⟨a, ns, rfl, hS, hl, hT _ (List.mem_singleton_self _), fun _ => rfl⟩, hF⟩
    · rw [List.mem_singleton.mp hp]
      exact c.x.empty _ hin
    · rw [List.mem_singleton.mp hp]
      exact c.x.out _ hin
    · rw [List.mem_singleton.mp hp]
      exact PySem.W.codeHd_of_K KX (c.x.hd _ hin)
