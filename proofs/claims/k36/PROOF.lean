import PyProof.Rows.All
import Wide.All
import OpenK.AllK
import Wide.FinOn
import HandS.ForMost
import PySem.Challenge.RW_flatdrawn_k36_drawings_judged
import HandS.Exc
import HandS.TryOnly
import HandS.ExcIs
import HandS.IsInst
import KE.DataAny
import HandS.Evl
import HandS.Conv
import HandS.Walk
import HandS.Zip
import HandS.TupAny
import HandS.SortRule
import HandS.ExcOwn
import HandS.WordsExc
import HandS.Lambda
import HandS.HeadHook1
import PyProof.Rows.RuleB_bool
import PyProof.Draws
import PyProof.EnumMake
import PyProof.TupleIter
import HandS.Iter
import HandS.Deep
import PyProof.ListMulRoad
import PyProof.FactsAll.tuple_2
import HandS.Base
import HandS.Call
import HandS.List
import HandS.TupMul
import HandS.TupLe
import HandS.Words
import PyProof.ReprRoads
import PyProof.ReprLen
import HandS.HeadEnd
import HandS.EndBits
import HandS.EndTab
import HandS.HeadWalk
import HandS.HeadHook4
import KE.KStateDown
import HandS.Head2
import HandS.HeadHook2
import HandS.Ends
import HandS.More
import HandS.Defaults
import HandS.Head0
import HandS.Head1
set_option Elab.async false
set_option linter.all false
set_option maxRecDepth 100000
set_option maxHeartbeats 0
namespace My
open PySem L2
def topS (i : Nat) : Stmt := PySem.Challenge.pw_flatdrawn_k36_drawings_judged.main.body.getD i (.Pass ⟨0, 0, 0, 0⟩)
def noS : Stmt := .Pass ⟨0, 0, 0, 0⟩
abbrev s_is_whole : Stmt := topS 1
abbrev s_is_number : Stmt := topS 2
abbrev s_is_rising : Stmt := topS 3
abbrev s_is_pair_of : Stmt := topS 12
abbrev s_Net_init : Stmt := inClass (topS 13) 0
abbrev s_Net_eq : Stmt := inClass (topS 13) 1
abbrev s_need_net : Stmt := topS 14
abbrev s_are_places : Stmt := topS 17
abbrev s_is_place : Stmt := topS 18
abbrev s_need_places : Stmt := topS 19
abbrev s_turn_of : Stmt := topS 20
abbrev s_is_between : Stmt := topS 21
abbrev s_sign : Stmt := topS 22
abbrev s_do_cross : Stmt := topS 23
abbrev s_fault_at : Stmt := topS 24
abbrev s_fault_of : Stmt := topS 25
abbrev s_is_drawing : Stmt := topS 26
abbrev s_law_begun : Stmt := topS 28
abbrev s_law_blended : Stmt := topS 29
abbrev s_law_draw : Stmt := topS 30
abbrev s_law_pick : Stmt := topS 31
abbrev s_law_mixed : Stmt := topS 32
abbrev s_law_caught : Stmt := topS 33
abbrev s_law_is_truth : Stmt := topS 34
abbrev s_law_nt_ties : Stmt := topS 35
abbrev s_law_nt_no_net : Stmt := topS 36
abbrev s_law_st_side : Stmt := topS 37
abbrev s_law_st_on : Stmt := topS 38
abbrev s_law_st_meet : Stmt := topS 39
abbrev s_law_st_fault : Stmt := topS 40
abbrev s_law_st_drawing : Stmt := topS 41
abbrev s_law_st_no_places : Stmt := topS 42
abbrev s_law_k36_moved : Stmt := topS 43
abbrev s_law : Stmt := topS 44
end My
/-! a caught exception that is kept as a value behind its except clause -/
namespace Kpt
open PySem PySem.Spec PyProof.Rows L2
/-- an exception object at a, of the class cls, its own dict d -/
def ExK (cls : Value) (d : Option Addr) (a : Addr) : HO := .ext fun h => ∃ (o : Obj) (vs : Array Value), h.get? a = some o ∧ Zc cls d o ∧ o.data = .fields vs
section
variable {X : Cx} {pins : List (Addr × Obj)} {σ : L2.St} {H : Hp} {s : Shared}
/-- a pinned exception object, younger than the frame, is tracked from now on -/
theorem track {a : Addr} {oe : Obj} {vs : Array Value} {cls : Value} {d : Option Addr} (I : Inv X ((a, oe) :: pins) σ H s) (young : X.s_0.heap.get? a = none) (hd : oe.data = .fields vs) (hz : Zc cls d oe) (hp : ∀ p ∈ X.pn ++ pins, p.1 ≠ a) :
    Inv X pins σ (upd H a (ExK cls d a)) s := by
  obtain ⟨ga, na, nL, nF, _⟩ := I.pin (a, oe) (List.mem_append.mpr (.inr List.mem_cons_self))
  have ga : s.heap.get? a = some oe := ga
  have na : H a = none := na
  have old : ∀ b u, H b = some u → b ≠ a := fun b u e z => by
    rw [z, na] at e
    cases e
  have up : ∀ {b u}, b ≠ a → H b = u → upd H a (ExK cls d a) b = u := fun {b u} hb e => by
    rw [upd_ne hb]
    exact e
  refine ⟨I.ok, I.os, I.bare, ⟨I.base.keep, I.base.slot, fun b o e n x => ?_, I.base.there, fun b xs e => ?_, fun b o u e => ?_, fun b ps e => ?_⟩, I.loc, I.cell, ?_, fun x c e => ?_, fun p hpm => ?_, fun b u e => ?_, I.len⟩
  · refine up (fun z => ?_) (I.base.free b o e n x)
    rw [z, young] at e
    cases e
  · have q := I.base.tups b xs e
    exact up (old _ _ q) q
  · have q := I.base.frzs b o u e
    exact up (old _ _ q) q
  · obtain ⟨more, q⟩ := I.base.tbls b ps e
    exact ⟨more, up (old _ _ q) q⟩
  · exact up (fun z => nL z.symm) I.free
  · refine up (fun z => ?_) (I.freeC x c e)
    obtain ⟨v, ob, h1, h2⟩ := I.cell x c e
    rw [z, ga] at h1
    cases h1
    rw [hd] at h2
    cases h2
  · obtain ⟨h1, h2, h3, h4, h5⟩ := I.pin p (by
      rcases List.mem_append.mp hpm with m | m
      · exact List.mem_append.mpr (.inl m)
      · exact List.mem_append.mpr (.inr (List.mem_cons_of_mem _ m)))
    exact ⟨h1, up (hp p hpm) h2, h3, h4, h5⟩
  · by_cases hb : b = a
    · subst hb
      rw [upd_same] at e
      cases e
      exact ⟨⟨oe, vs, ga, hz, hd⟩, ⟨oe, ga⟩, fun _ _ ⟨o, v, q, r⟩ k => ⟨o, v, k o q, r⟩⟩
    · rw [upd_ne hb] at e
      exact (I.hok b u e).stay (fun c v _ q => q) (fun c q => up (old _ _ q) q) fun c xs q => up (old _ _ q) q
end
/-- the wish of the clause: the suite ends by going on, then the object is tracked, the clause's name is gone -/
def wKeep (K : PySem.W.Frag) (N : Nat) (c : Value) (i : Nat) (ts : Addr → Value → Option Addr → TS) (Wout : WX) (D : Ends) : WX := fun cls d σ H =>
  ∃ b, PySem.W.exmOne K cls c = some b ∧ (b = true → σ.length = N → ∀ a, H a = none → ts a cls d { nx := fun σ' H' => D.nx (σ'.set i none) (upd H' a (ExK cls d a)), rt := fun _ _ => False, bk := fun _ _ => False, ct := fun _ _ => False } (σ.set i (some (.ref a))) H) ∧
    (b = false → Wout cls d σ H)
section
variable {X : Cx} {x n : Str} {c : Value} {i : Nat} {body suite : List Stmt} {b₀ : Stmt} {np pos pos' : Pos} {tb : WX → TS} {ts : Addr → Value → Option Addr → TS} {Wout : WX}
theorem ps_try_keep (hst : X.stack = X.env :: X.outer) (hfl : X.env.frame = some X.env.locals) (hex : X.ex = []) (hnd : X.N.Nodup) (hni : X.N[i]? = some n) (hkd : X.env.kindOf n = some .local) (hcl : Names X x c) (htk : Takes X Wout)
    (hbody : ∀ (W : WX) (pn : List (Addr × Obj)) (xe : Value → Shared → Prop), Takes (X.tr pn xe) W → PassesOwn (model X.prog X.w) X.A X.env xe → PSs (X.tr pn xe) body (tb W))
    (hsuite : ∀ (a : Addr) (oe : Obj) (cls : Value) (d : Option Addr) (pn : List (Addr × Obj)), Zc cls d oe → (∃ vs, oe.data = .fields vs) → PSs (X.suite a ((a, oe) :: pn)) (b₀ :: suite) (ts a cls d)) :
    PS X (.Try body [.ExceptHandler (some (.Name x np)) (some n) (b₀ :: suite) pos'] [] [] pos) (fun D σ H => tb (wKeep X.K X.N.length c i ts Wout D) D σ H) := by
  refine ⟨fun pins s σ H D I h => ?_⟩
  have okX := I.ok
  have frms : X.A.frames = some (X.env :: X.outer) := okX.frames.trans (congrArg some hst)
  refine wpAny_Try_except ?_
  let after : Value → Shared → Prop := fun e s₁ => wpAny (model X.prog X.w) X.A (noteFrame e X.env) (fun _ s₂ => wpAny (model X.prog X.w) X.A (setFlight e none) (fun _ s₃ =>
    wpAny (model X.prog X.w) X.A (handleBy e X.env [.ExceptHandler (some (.Name x np)) (some n) (b₀ :: suite) pos']) (SP X pins D) X.xe s₃) X.xe s₂) X.xe s₁
  have took : Takes (X.tr (X.pn ++ pins) after) (wKeep X.K X.N.length c i ts Wout D) := by
    rintro u s' ⟨a, B, sI, pin', σ', H', cls, d, rfl, JT, ground, upto, inair, na, os, bare, b, hb, yes, no⟩
    have J : Inv X pins σ' H' sI := JT.ofTry okX
    have air : Sky B (X.env :: X.outer) a (Zc cls d) X.env.locals s'.heap := by
      rw [← hst]
      exact inair
    show wpAny (model X.prog X.w) X.A (noteFrame (.ref a) X.env) _ _ _
    refine Sky.land Zc.steady frms hfl air fun g fly upg => ?_
    have Jg : Inv X pins σ' H' { s' with heap := g } := J.landed ground fly.1 (upto.trans upg) os bare
    obtain ⟨og, vg, gg, zg, dg⟩ := fly.there
    have noFrame : a ∉ frs (X.env :: X.outer) := fun hm => by
      obtain ⟨_, o', e', hnf⟩ := fly.2.2.1.mem hm
      rw [gg] at e'
      cases e'
      exact hnf _ dg
    have nL : a ≠ X.env.locals := fun z => noFrame (List.mem_filterMap.mpr ⟨X.env, List.mem_cons_self, by rw [hfl, z]⟩)
    have nF : a ∉ X.fs := fun hm => by
      obtain ⟨e, he, q⟩ := List.mem_filterMap.mp hm
      exact noFrame (List.mem_filterMap.mpr ⟨e, List.mem_cons_of_mem _ he, q⟩)
    have noB : B.get? a = none := fly.2.1
    have noI : sI.heap.get? a = none := by
      cases q : sI.heap.get? a with
      | none => rfl
      | some o =>
        have z := ground a o q (by rw [hst]; exact noFrame)
        rw [noB] at z
        cases z
    have young : X.s_0.heap.get? a = none := by
      cases q : X.s_0.heap.get? a with
      | none => rfl
      | some o =>
        obtain ⟨o', z⟩ := J.base.there a o q (by rw [hex]; simp)
        rw [noI] at z
        cases z
    have apart : ∀ p ∈ X.pn ++ pins, p.1 ≠ a := fun p hp z => by
      have e := (J.pin p hp).1
      rw [z, noI] at e
      cases e
    have Sg := Jg.suite gg dg na nL nF
    refine wpAny_handleBy_cons (codeAny_handlers_test ?_) (by intro q; cases q)
    have ofTy : PySem.W.Looks (model X.prog X.w) g (typeOf (.ref a)) cls := fun A Q E s k q => wpAny_typeOf_ref (k _ _ gg) (by rw [zg.1]; exact q)
    have asked := PySem.W.exm_one (M := model X.prog X.w) (Jg.kIn) ofTy hb
    have named : ∀ {Q : Value → Shared → Prop} {E : Value → Shared → Prop}, Q c { s' with heap := g } → wpAny (model X.prog X.w) (X.A.mark (some (.ref a))) (eval (.Name x np) X.env) Q E { s' with heap := g } := fun {Q E} q => by
      rcases hcl with ⟨hgl, hdg, hm | ⟨hm, hv, hnn⟩⟩
      · exact ld_glob (X := X.suite a ((a, og) :: (X.pn ++ pins))) Sg hgl hm q hdg
      · exact ld_blt (X := X.suite a ((a, og) :: (X.pn ++ pins))) Sg hgl hm hv q hnn hdg
    refine named (asked.here ?_)
    cases b with
    | true =>
      refine codeAny_handlers_suite_as ?_
      refine HandSPX.lands_againZ fly fun g2 fly2 upg2 => ?_
      have J2 : Inv X pins σ' H' { s' with heap := g2 } := J.landed ground fly2.1 ((upto.trans upg).trans upg2) os bare
      obtain ⟨o2, v2, gg2, z2, d2⟩ := fly2.there
      have S2 := J2.suite gg2 d2 na nL nF
      refine store_ok (X := X.suite a ((a, o2) :: (X.pn ++ pins))) (v := .ref a) S2 hnd hni (.inl hkd) rfl (fun s5 S5 => ?_) (.inr hkd)
      refine wpAny_mono ((hsuite a o2 cls d (X.pn ++ pins) z2 ⟨_, d2⟩).run [] s5 _ H' _ S5 (yes rfl J.len a na)) (fun f s6 out => ?_) (fun _ _ z => False.elim z)
      cases f with
      | next =>
        obtain ⟨σ6, H6, S6, q6⟩ := out
        have I6 : Inv X ((a, o2) :: pins) σ6 H6 s6 := ⟨okX, S6.os, S6.bare, S6.base, S6.loc, S6.cell, S6.free, S6.freeC, fun p hp => S6.pin p (by
          rw [List.append_nil]
          rcases List.mem_append.mp hp with m | m
          · exact List.mem_cons_of_mem _ (List.mem_append.mpr (.inl m))
          · rcases List.mem_cons.mp m with e | m
            · rw [e]
              exact List.mem_cons_self
            · exact List.mem_cons_of_mem _ (List.mem_append.mpr (.inr m))), S6.hok, S6.len⟩
        exact gone_ok I6 hnd hni hkd fun s7 J7 => ⟨_, _, track J7 young d2 z2 apart, q6⟩
      | brk =>
        obtain ⟨_, _, _, q6⟩ := out
        exact q6.elim
      | cont =>
        obtain ⟨_, _, _, q6⟩ := out
        exact q6.elim
      | ret u =>
        obtain ⟨_, _, _, _, _, q6⟩ := out
        exact q6.elim
    | false =>
      show wpAny _ X.A (handleBy (.ref a) X.env []) _ _ _
      refine wpAny_handleBy_nil ?_
      obtain ⟨_, _, _, o3, v3, T, oT, ts', g3, _, d3, h1, _⟩ := id fly
      unfold PySem.passOn
      refine wpAny_bind (wpAny_field g3 d3 h1 ?_)
      rw [if_neg (show ¬ ((Value.ref T == Value.none) = true) from by simp)]
      have off : wpAny (model X.prog X.w) X.A (setFlight (.ref a) X.env.frame) (fun _ s4 => wpAny (model X.prog X.w) X.A (throw (.ref a) : Sem Flow) (SP X pins D) X.xe s4) X.xe { s' with heap := g } := by
        rw [hfl]
        refine HandSPX.setFlight_upZ fly fun h4 hh4 up4 => wpAny_throw (htk _ _ ⟨a, B, sI, pins, σ', H', cls, d, rfl, J, ground, (upto.trans upg).trans up4, .inr (.inr ?_), na, os, bare, no rfl⟩)
        rw [hst]
        exact hh4
      first
        | exact wpAny_bind (wpAny_pure (wpAny_bind off))
        | exact wpAny_bind off
  refine wpAny_mono ((hbody (wKeep X.K X.N.length c i ts Wout D) (X.pn ++ pins) after took PassesOwn.looking).run [] s σ H D (I.toTry _) h) (fun f s1 out => ?_) (fun e s1 he => he)
  cases f with
  | next =>
    obtain ⟨σ', H', J', q⟩ := out
    exact wpAny_execs_nil ⟨σ', H', J'.ofTry okX, q⟩
  | brk =>
    obtain ⟨σ', H', J', q⟩ := out
    exact ⟨σ', H', J'.ofTry okX, q⟩
  | cont =>
    obtain ⟨σ', H', J', q⟩ := out
    exact ⟨σ', H', J'.ofTry okX, q⟩
  | ret u =>
    obtain ⟨v, σ', H', J', r, q⟩ := out
    exact ⟨v, σ', H', J'.ofTry okX, r, q⟩
end
end Kpt
/-! words that hold for every law of this package -/
namespace My
open PySem PySem.Spec PyProof.Rows L2 Evl
theorem dp_bls {K : PySem.W.Frag} {H : Hp} : ∀ bs : List Bool, DpAll K H (bs.map V.bl) (bs.map PyData.bool)
  | [] => .nil
  | b :: r => .cons (.bl b) (dp_bls r)
theorem plain_bls : ∀ bs : List Bool, PyData.plainAll (bs.map PyData.bool) = true
  | [] => rfl
  | b :: r => by
    show PyData.plainAll (PyData.bool b :: r.map PyData.bool) = true
    unfold PyData.plainAll
    rw [plain_bls r]
    rfl
theorem truthy_bls : ∀ bs : List Bool, (bs.map PyData.bool).all PyData.truthy = bs.all id
  | [] => rfl
  | b :: r => by
    rw [List.map_cons, List.all_cons, List.all_cons, truthy_bls r]
    rfl
theorem truthy_bls' : ∀ bs : List Bool, (bs.map PyData.bool).any PyData.truthy = bs.any id
  | [] => rfl
  | b :: r => by
    rw [List.map_cons, List.any_cons, List.any_cons, truthy_bls' r]
    rfl
/-- all, any of a list of truth values -/
def rAllB (K : PySem.W.Frag) : List V → Hp → VK → Prop := fun xs H Q => ∃ (l : Addr) (bs : List Bool), xs = [.ref l] ∧ SqL K H l (bs.map V.bl) ∧ Q (.bl (bs.all id)) H
def rAnyB (K : PySem.W.Frag) : List V → Hp → VK → Prop := fun xs H Q => ∃ (l : Addr) (bs : List Bool), xs = [.ref l] ∧ SqL K H l (bs.map V.bl) ∧ Q (.bl (bs.any id)) H
theorem call_allB {X : Cx} (hc : X.calm = true) : CallR X (.builtin "all") (rAllB X.K) := by
  intro pins s σ H xs us Q I r h
  obtain ⟨l, bs, rfl, hl, q⟩ := h
  rw [Vals.ref1 r]
  obtain ⟨its, rv, pl, hz⟩ := I.list hl
  obtain ⟨as, hr⟩ := Dp.readsAll I _ _ _ (dp_bls bs) rv
  refine PySem.W.all_list_data (I.ok.hd hc) pl.isList hr (plain_bls bs) (fun x hx => ?_) fun h' tk k => ?_
  · obtain ⟨b, _, rfl⟩ := List.mem_map.mp hx
    trivial
  · rw [truthy_bls]
    exact ⟨.bl _, H, I.kept (t' := tk) k, rfl, q⟩
theorem call_anyB {X : Cx} (hc : X.calm = true) : CallR X (.builtin "any") (rAnyB X.K) := by
  intro pins s σ H xs us Q I r h
  obtain ⟨l, bs, rfl, hl, q⟩ := h
  rw [Vals.ref1 r]
  obtain ⟨its, rv, pl, hz⟩ := I.list hl
  obtain ⟨as, hr⟩ := Dp.readsAll I _ _ _ (dp_bls bs) rv
  refine PySem.W.any_list_data (I.ok.hd hc) pl.isList hr (plain_bls bs) (fun x hx => ?_) fun h' tk k => ?_
  · obtain ⟨b, _, rfl⟩ := List.mem_map.mp hx
    trivial
  · rw [truthy_bls']
    exact ⟨.bl _, H, I.kept (t' := tk) k, rfl, q⟩
theorem ev_all {K : PySem.W.Frag} {te : TE} {σ : L2.St} {H : Hp} {bs : List Bool} (h : EvL te σ H (bs.map V.bl)) : Ev (tCB (rAllB K) (tCons te tNil)) σ H (.bl (bs.all id)) := fun H1 e Q q => h H1 e _ fun p H2 _ e2 hp => ⟨p, bs, rfl, SqL.of hp, q H2 e2⟩
theorem ev_any {K : PySem.W.Frag} {te : TE} {σ : L2.St} {H : Hp} {bs : List Bool} (h : EvL te σ H (bs.map V.bl)) : Ev (tCB (rAnyB K) (tCons te tNil)) σ H (.bl (bs.any id)) := fun H1 e Q q => h H1 e _ fun p H2 _ e2 hp => ⟨p, bs, rfl, SqL.of hp, q H2 e2⟩
theorem el_is {te : TE} {σ : L2.St} {H : Hp} {xs ys : List V} (h : EvL te σ H xs) (e : xs = ys) : EvL te σ H ys := e ▸ h
theorem boot_all : bootBuiltins "all" = some (.builtin "all") := by decide +kernel
theorem boot_any : bootBuiltins "any" = some (.builtin "any") := by decide +kernel
theorem boot_isi : bootBuiltins "isinstance" = some (.builtin "isinstance") := by decide +kernel
theorem boot_intT : bootBuiltins "int" = some (.type "int") := by decide +kernel
theorem boot_boolT : bootBuiltins "bool" = some (.type "bool") := by decide +kernel
theorem boot_tupT : bootBuiltins "tuple" = some (.type "tuple") := by decide +kernel
theorem boot_strT : bootBuiltins "str" = some (.type "str") := by decide +kernel
/-! ### isinstance of flat values and of tuples -/
def tyF : V → String
  | .non => "NoneType"
  | .bl _ => "bool"
  | .int _ => "int"
  | .str _ => "str"
  | _ => "object"
theorem ty_flat {K : PySem.W.Frag} {H : Hp} {x : V} (h : flatV x = true) : TyX K H x (.type (tyF x)) := by
  cases x with
  | non => exact .base .non
  | bl b => exact .base (.bl b)
  | int i => exact .base (.int i)
  | str z => exact .base (.str z)
  | _ => cases h
def isIntV : V → Bool
  | .bl _ => true
  | .int _ => true
  | _ => false
def isBoolV : V → Bool
  | .bl _ => true
  | _ => false
theorem kit_int {K : PySem.W.Frag} {x : V} (h : flatV x = true) : PySem.W.kitOne K (.type (tyF x)) (.type "int") = some (isIntV x) := by
  cases x with
  | non => rfl
  | bl b => rfl
  | int i => rfl
  | str z => rfl
  | _ => cases h
theorem kit_bool {K : PySem.W.Frag} {x : V} (h : flatV x = true) : PySem.W.kitOne K (.type (tyF x)) (.type "bool") = some (isBoolV x) := by
  cases x with
  | non => rfl
  | bl b => rfl
  | int i => rfl
  | str z => rfl
  | _ => cases h
theorem ev_isi {K : PySem.W.Frag} {σ : L2.St} {H : Hp} {te : TE} {x c : V} {t u : Value} {b : Bool} (ha : Ev te σ H x) (hc : ClsV c u) (ty : ∀ H', Ex H H' → TyX K H' x t) (hk : PySem.W.kitOne K t u = some b) : Ev (tCB (rIsi K) (tCons te (tCons (tC c) tNil))) σ H (.bl b) :=
  ev_cb (ea_cons ha (ea_cons ev_c ea_nil)) fun H1 e1 Q q => ⟨x, c, t, u, b, rfl, hc, ty H1 e1, hk, q H1 (Ex.refl _)⟩
/-- a whole number, and none of truth -/
def wholeV : V → Bool
  | .int i => decide (-(10 ^ 18 : Int) < i) && decide (i < 10 ^ 18)
  | _ => false
def rngV (x : V) (lo hi : Int) : Bool := match x with
  | .int i => decide (lo ≤ i) && decide (i ≤ hi)
  | _ => false
def numV (x : V) (lo hi : Int) : Bool := wholeV x && rngV x lo hi
theorem ev_chain {r r' : R2} {ta tb tc : TE} {σ : L2.St} {H : Hp} {x y z : V} {b c : Bool} (ha : Ev ta σ H x) (hb : Ev tb σ H y) (h1 : RV r x y H (.bl b)) (hc : b = true → Ev tc σ H z) (h2 : b = true → RV r' y z H (.bl c)) : Ev (tChain r r' ta tb tc) σ H (.bl (b && c)) := fun H1 e Q q =>
  ha H1 e _ fun H2 e2 => hb H2 (e.trans e2) _ fun H3 e3 => h1 H3 ((e.trans e2).trans e3) _ fun H4 e4 => ⟨b, rfl, by
    cases b with
    | false =>
      rw [if_neg Bool.false_ne_true]
      exact q H4 ((e2.trans e3).trans e4)
    | true =>
      rw [if_pos rfl]
      exact hc rfl H4 (((e.trans e2).trans e3).trans e4) _ fun H5 e5 => h2 rfl H5 ((((e.trans e2).trans e3).trans e4).trans e5) _ fun H6 e6 => q H6 ((((e2.trans e3).trans e4).trans e5).trans e6)⟩
end My
/-! is_whole, is_number -/
namespace My
open PySem PySem.Spec PyProof.Rows L2 Evl
structure CkB (mg : Str → Option Value) : Prop where
  isi : mg "isinstance" = none
  int : mg "int" = none
  bool : mg "bool" = none
  tup : mg "tuple" = none
  all : mg "all" = none
  len : mg "len" = none
  zip : mg "zip" = none
section
variable {P : Program} {w : World} {K : PySem.W.Frag} {mg : Str → Option Value} {base : Heap}
def spWhole : Sp := fun vs H Q _ => ∃ x, vs = [x] ∧ flatV x = true ∧ RetV (.bl (wholeV x)) H Q
theorem scWh : FnScope ["value"] ["value"] (defScope s_is_whole) := ⟨rfl, rfl, rfl, by decide +kernel, rfl, by decide +kernel, by decide +kernel⟩
theorem ru_negI {H : Hp} {i : Int} : RU (rU fun i => .int (-i)) (.int i) H (.int (-i)) := ru_neg
theorem ok_whole {f : Addr} {fd : FuncData} (F : Fun K "is_whole" "is_whole" s_is_whole f fd) (B : CkB mg) : FnOk P w K mg base CX0 1 f fd ["value"] spWhole := by
  refine F.ok scWh (fun vs H Q E h => ?_) (fun cdv A outer s H vs Q E hr h => ?_)
  · obtain ⟨x, rfl, _⟩ := h
    rfl
  · obtain ⟨x, rfl, hx, k⟩ := h
    refine ⟨_, pss_one (ps_ret (pe_and (pe_callB call_isi (by rfl) B.isi boot_isi (pa_cons (pv 0) (pa_cons (pe_bltn (v := .ty "int") (by rfl) B.int boot_intT rfl) pa_nil)))
      (pe_and (pe_not (pe_callB call_isi (by rfl) B.isi boot_isi (pa_cons (pv 0) (pa_cons (pe_bltn (v := .ty "bool") (by rfl) B.bool boot_boolT rfl) pa_nil))))
      (pe_one (pe_chain op_lt op_lt (pe_un un_neg (pe_op op_pow pe_int pe_int)) (pv 0) (pe_op op_pow pe_int pe_int)))))), ?_⟩
    have ePow : ∀ (H1 : Hp) (σ : L2.St), Ev (tOp (rI CPow fun i j => .int (i ^ j.toNat)) (tC (.int 10)) (tC (.int 18))) σ H1 (.int ((10 : Int) ^ (18 : Int).toNat)) :=
      fun H1 σ => ev_op ev_c ev_c (rv_I ⟨by decide, by decide, by decide⟩)
    refine s_ret (v := .bl (wholeV x)) (ev_is (ev_andV (b := !isBoolV x && wholeV x) (ev_isi (ev_var rfl) (.ty _) (fun _ _ => ty_flat hx) (kit_int hx)) (fun h1 => ev_andV (b := wholeV x) (ev_notV (ev_isi (ev_var rfl) (.ty _) (fun _ _ => ty_flat hx) (kit_bool hx))) (fun h2 => ?_))) ?_) (fun H1 e1 => k.go e1)
    · cases x with
      | int i => exact ev_chain (ev_un (ePow _ _) ru_neg) (ev_var rfl) rv_I0 (fun _ => ePow _ _) (fun _ => rv_I0)
      | bl b => cases h2
      | _ => cases h1
    · cases x with
      | int i =>
        show V.bl (true && (true && _)) = _
        rw [Bool.true_and, Bool.true_and]
      | _ => rfl
def spNumber : Sp := fun vs H Q _ => ∃ x lo hi, vs = [x, .int lo, .int hi] ∧ flatV x = true ∧ RetV (.bl (numV x lo hi)) H Q
theorem scNu : FnScope ["value", "least", "most"] ["value", "least", "most"] (defScope s_is_number) := ⟨rfl, rfl, rfl, by decide +kernel, rfl, by decide +kernel, by decide +kernel⟩
theorem sp_whole {H : Hp} {x : V} (hx : flatV x = true) : SpV spWhole [x] H (.bl (wholeV x)) := fun H1 e Q q E => ⟨x, rfl, hx, fun H2 e2 => q H2 e2⟩
theorem ok_number {f fW : Addr} {fd fdW : FuncData} (F : Fun K "is_number" "is_number" s_is_number f fd) (B : CkB mg) (FW : Fun K "is_whole" "is_whole" s_is_whole fW fdW) (mgW : mg "is_whole" = some (.ref fW)) : FnOk P w K mg base CX0 2 f fd ["value", "least", "most"] spNumber := by
  have GW : FnOk P w K mg base CX0 1 fW fdW ["value"] spWhole := ok_whole FW B
  have bW : Binds K fdW ["value"] [] := FW.binds (ps := ["value"]) fun _ _ _ _ _ _ us hl => match us, hl with | [_], _ => rfl
  refine F.ok scNu (fun vs H Q E h => ?_) (fun cdv A outer s H vs Q E hr h => ?_)
  · obtain ⟨x, lo, hi, rfl, _⟩ := h
    rfl
  · obtain ⟨x, lo, hi, rfl, hx, k⟩ := h
    refine ⟨_, pss_one (ps_ret (pe_and (pe_call GW hr (by rfl) mgW FW.kp bW .nil pass0 (pa_cons (pv 0) pa_nil)) (pe_one (pe_chain op_le op_le (pv 1) (pv 0) (pv 2))))), ?_⟩
    refine s_ret (v := .bl (numV x lo hi)) (ev_is (ev_andV (b := rngV x lo hi) (ev_call (ea_cons (ev_var rfl) ea_nil) (sp_whole hx)) (fun h1 => ?_)) ?_) (fun H1 e1 => k.go e1)
    · cases x with
      | int i => exact ev_chain (ev_var rfl) (ev_var rfl) rv_I0 (fun _ => ev_var rfl) (fun _ => rv_I0)
      | _ => cases h1
    · rfl
end
end My
/-! pairs of ints; comprehensions over any walk; tuples as values -/
namespace My
open PySem PySem.Spec PyProof.Rows L2 Evl
/-! ### pairs -/
def PairV (H : Hp) (x : V) (p : Int × Int) : Prop := ∃ t, x = .ref t ∧ H t = some (.tup [.int p.1, .int p.2])
theorem PairV.up {H H' : Hp} {x : V} {p : Int × Int} (e : Ex H H') (h : PairV H x p) : PairV H' x p := let ⟨t, h1, h2⟩ := h; ⟨t, h1, e _ _ h2⟩
theorem PairV.uniq {H : Hp} {x : V} {p q : Int × Int} (h : PairV H x p) (k : PairV H x q) : p = q := by
  obtain ⟨t, rfl, h2⟩ := h
  obtain ⟨u, e, k2⟩ := k
  cases e
  rw [h2] at k2
  cases p
  cases q
  cases k2
  rfl
inductive PrL (H : Hp) : List V → List (Int × Int) → Prop
  | nil : PrL H [] []
  | cons {x : V} {p : Int × Int} {xs : List V} {ps : List (Int × Int)} : PairV H x p → PrL H xs ps → PrL H (x :: xs) (p :: ps)
theorem PrL.up {H H' : Hp} (e : Ex H H') : ∀ {xs ps}, PrL H xs ps → PrL H' xs ps
  | _, _, .nil => .nil
  | _, _, .cons h r => .cons (h.up e) (r.up e)
theorem PrL.len {H : Hp} : ∀ {xs ps}, PrL H xs ps → xs.length = ps.length
  | _, _, .nil => rfl
  | _, _, .cons _ r => congrArg (· + 1) r.len
theorem PrL.app {H : Hp} : ∀ {xs ps ys qs}, PrL H xs ps → PrL H ys qs → PrL H (xs ++ ys) (ps ++ qs)
  | _, _, _, _, .nil, k => k
  | _, _, _, _, .cons h r, k => .cons h (r.app k)
theorem PrL.get {H : Hp} : ∀ {xs ps}, PrL H xs ps → ∀ (i : Nat) (x : V), xs[i]? = some x → ∃ p, ps[i]? = some p ∧ PairV H x p
  | _, _, .nil, _, _, h => nomatch h
  | _, _, .cons h r, 0, x, e => ⟨_, rfl, by cases e; exact h⟩
  | _, _, .cons h r, i + 1, x, e => r.get i x e
theorem PrL.drop {H : Hp} : ∀ (n : Nat) {xs ps}, PrL H xs ps → PrL H (xs.drop n) (ps.drop n)
  | 0, _, _, h => h
  | n + 1, _, _, .nil => .nil
  | n + 1, _, _, .cons h r => PrL.drop n r
theorem PrL.take {H : Hp} : ∀ (n : Nat) {xs ps}, PrL H xs ps → PrL H (xs.take n) (ps.take n)
  | 0, _, _, _ => .nil
  | n + 1, _, _, .nil => .nil
  | n + 1, _, _, .cons h r => .cons h (PrL.take n r)
theorem PrL.mem {H : Hp} : ∀ {xs ps}, PrL H xs ps → ∀ x ∈ xs, ∃ p ∈ ps, PairV H x p
  | _, _, .cons h r, x, hx => by
    rcases List.mem_cons.mp hx with e | hx
    · subst e
      exact ⟨_, List.mem_cons_self, h⟩
    · obtain ⟨p, hp, k⟩ := r.mem x hx
      exact ⟨p, List.mem_cons_of_mem _ hp, k⟩
/-- what stands at x -/
noncomputable def prOf (H : Hp) (x : V) : Int × Int := open Classical in if h : ∃ p, PairV H x p then h.choose else (0, 0)
theorem prOf_eq {H : Hp} {x : V} {p : Int × Int} (h : PairV H x p) : prOf H x = p := by
  unfold prOf
  rw [dif_pos ⟨p, h⟩]
  exact (Exists.choose_spec (⟨p, h⟩ : ∃ p, PairV H x p)).uniq h
theorem PrL.map {H : Hp} : ∀ {xs ps}, PrL H xs ps → xs.map (prOf H) = ps
  | _, _, .nil => rfl
  | _, _, .cons h r => by
    rw [List.map_cons, prOf_eq h, r.map]
theorem PrL.of {H : Hp} : ∀ {xs : List V}, (∀ x ∈ xs, ∃ p, PairV H x p) → PrL H xs (xs.map (prOf H))
  | [], _ => .nil
  | x :: r, h => by
    obtain ⟨p, hp⟩ := h x List.mem_cons_self
    rw [List.map_cons, prOf_eq hp]
    exact .cons hp (PrL.of fun y hy => h y (List.mem_cons_of_mem _ hy))
/-! ### a tuple as a value, new or not -/
def EvS (K : PySem.W.Frag) (te : TE) (σ : L2.St) (H : Hp) (xs : List V) : Prop := ∀ H1, Ex H H1 → ∀ Q : VK, (∀ p H2, Ex H1 H2 → SqT K H2 p xs → Q (.ref p) H2) → te σ H1 Q
section
variable {K : PySem.W.Frag} {σ : L2.St} {H : Hp} {te ta tb : TE} {xs ys : List V}
theorem es_var {i : Nat} {a : Addr} (h : σ[i]? = some (some (.ref a))) (hx : SqT K H a xs) : EvS K (tVar i) σ H xs := fun H1 e Q q => ⟨_, h, q a H1 (Ex.refl _) (ex_t e hx)⟩
theorem es_U (h : EvU te σ H xs) : EvS K te σ H xs := fun H1 e Q q => h H1 e _ fun p H2 _ e2 hp => q p H2 e2 (st_of hp)
theorem es_is (h : EvS K te σ H xs) (e : xs = ys) : EvS K te σ H ys := e ▸ h
theorem sIx_all {n : Nat} (xs : List V) (h : HT.sIx xs.length 0 none = 0 ∧ HT.sIx xs.length xs.length none = xs.length) : cutV xs none none = xs := by
  unfold cutV
  rw [h.1, h.2, List.drop_zero, Nat.sub_zero, List.take_length]
theorem cut_whole {lo hi : Option Int} (h : HT.sIx xs.length 0 lo = 0 ∧ HT.sIx xs.length xs.length hi = xs.length) : cutV xs lo hi = xs := by
  unfold cutV
  rw [h.1, h.2, List.drop_zero, Nat.sub_zero, List.take_length]
theorem es_sl {tl th : TO} {lo hi : Option Int} (h : EvS K te σ H xs) (h1 : EvO tl σ H lo) (h2 : EvO th σ H hi) : EvS K (tSl (rSlA K) te tl th) σ H (cutV xs lo hi) := fun H1 e Q q =>
  h H1 e _ fun a H2 e2 ha => h1 H2 (e.trans e2) _ fun H3 e3 => h2 H3 ((e.trans e2).trans e3) _ fun H4 e4 => ⟨a, xs, rfl, ex_t (e3.trans e4) ha, fun w => by
    have z := cut_whole w
    exact q a H4 ((e2.trans e3).trans e4) (by rw [z]; exact ex_t (e3.trans e4) ha), fun _ p hp => q p _ (((e2.trans e3).trans e4).trans (Ex.new hp)) (st_of upd_same)⟩
theorem es_cat (h : EvS K ta σ H xs) (k : EvS K tb σ H ys) (hz : xs.length + ys.length ≤ 100000) : EvS K (tOp (rCatA K) ta tb) σ H (xs ++ ys) := fun H1 e Q q =>
  h H1 e _ fun a H2 e2 ha => k H2 (e.trans e2) _ fun b H3 e3 hb => ⟨a, b, xs, ys, rfl, rfl, ex_t e3 ha, hb, sz_of hz, fun z => by
    subst z
    exact q b H3 (e2.trans e3) hb, fun _ z => by
    subst z
    rw [List.append_nil] at q
    exact q a H3 (e2.trans e3) (ex_t e3 ha), fun _ _ p hp => q p _ ((e2.trans e3).trans (Ex.new hp)) (st_of upd_same)⟩
end
theorem ev_lenS {K : PySem.W.Frag} {σ : L2.St} {H : Hp} {te : TE} {xs : List V} (h : EvS K te σ H xs) : Ev (tCB (rLenS K) (tCons te tNil)) σ H (.int (xs.length : Int)) := fun H1 e Q q => h H1 e _ fun p H2 e2 hp => ⟨p, xs, rfl, .inr hp, q H2 e2⟩
theorem ty_tup {K : PySem.W.Frag} {H : Hp} {a : Addr} {xs : List V} (h : SqT K H a xs) : TyX K H (.ref a) (.type "tuple") := by
  rcases h with (h | ⟨o, h⟩) | ⟨o, its, n, h1, h2, _⟩
  · exact .base (.tup h)
  · exact .fTuple h
  · exact .kTuple h1 h2
theorem cut_from (xs : List V) (n : Nat) : cutV xs (some (n : Int)) none = xs.drop n := by
  unfold cutV
  have h1 : HT.sIx xs.length xs.length none = xs.length := rfl
  have h0 : HT.sIx xs.length 0 (some (n : Int)) = min n xs.length := by
    unfold HT.sIx
    simp
    omega
  rw [h1, h0]
  by_cases h : n ≤ xs.length
  · rw [Nat.min_eq_left h, List.take_of_length_le (by rw [List.length_drop]; exact Nat.le_refl _)]
  · rw [Nat.min_eq_right (by omega), List.drop_eq_nil_of_le (Nat.le_refl _), List.drop_eq_nil_of_le (by omega), List.take_nil]
theorem cut_to (xs : List V) (n : Nat) : cutV xs none (some (n : Int)) = xs.take n := by
  unfold cutV
  have h1 : HT.sIx xs.length 0 none = 0 := rfl
  have h0 : HT.sIx xs.length xs.length (some (n : Int)) = min n xs.length := by
    unfold HT.sIx
    simp
    omega
  rw [h1, h0, List.drop_zero, Nat.sub_zero]
  by_cases h : n ≤ xs.length
  · rw [Nat.min_eq_left h]
  · rw [Nat.min_eq_right (by omega), List.take_length, List.take_of_length_le (by omega)]
/-! ### a comprehension over any walk -/
theorem el_lcW {σ : L2.St} {H : Hp} {wi : TI} {g : TG} {tt : TT} {te : TE} {vs : List Nat} {n : Nat} {Y : Nat → Hp → V → Hp → Prop} (f : Nat → Bool) (v : Nat → V) (hn : n ≤ 40000)
    (hw : ∀ H1, Ex H H1 → ∀ R : It → Hp → Prop, (∀ J H2, Ex H1 H2 → Walk J n (fun H' => Ex H2 H') Y → R J H2) → wi σ H1 R)
    (hs : ∀ i x H1 H2, i < n → Ex H H1 → Y i H1 x H2 → Ex H1 H2 ∧ ∃ σ2, (∀ R : L2.St → Hp → Prop, R σ2 H2 → g x (wipe σ vs) H2 R) ∧ wipe σ2 vs = wipe σ vs ∧ EvT tt σ2 H (f i) ∧ (f i = true → Ev te σ2 H (v i))) :
    EvL (tLc wi g tt te vs) σ H (given n f v) := fun H0 e Q q => hw H0 e _ fun J H2 e2 w Dl hD =>
  lc_it w (Cw H2 f v Dl) ⟨hD, Ex.new hD, upd_same⟩ (fun i H' _ p => p.2.1) (fun i x H3 H4 hi p y => by
    obtain ⟨e4, σ2, hg, hwp, ht, he⟩ := hs i x H3 H4 hi ((e.trans e2).trans p.2.1) y
    refine hg _ ⟨hwp, cw_turn ⟨p.1, p.2.1.trans e4, e4 _ _ p.2.2⟩ (by omega) (EvT.mono (e.trans e2) ht) fun hf => Ev.mono (e.trans e2) (he hf)⟩) (fun H' p => q Dl H' (fresh_back e2 p.1) (e2.trans p.2.1) p.2.2)
theorem given_all {n : Nat} {v : Nat → V} : given n (fun _ => true) v = (List.range n).map v := by
  unfold given
  rw [List.filter_eq_self.mpr fun _ _ => rfl]
/-- the target a, b of a new pair -/
theorem g_pair {K : PySem.W.Frag} {i j : Nat} {T : Addr} {x y : V} {H : Hp} {σ : L2.St} {R : L2.St → Hp → Prop} (h : R ((σ.set i (some x)).set j (some y)) (upd H T (.tup [x, y]))) : gTup K 2 (gCons (gName i) (gCons (gName j) gNil)) (.ref T) σ (upd H T (.tup [x, y])) R :=
  ⟨T, _, rfl, SqT.of upd_same, rfl, _, _, rfl, _, _, rfl, rfl, h⟩
/-- .. of a pair that stands there -/
theorem g_pairT {K : PySem.W.Frag} {i j : Nat} {T : Addr} {x y : V} {H : Hp} {σ : L2.St} {R : L2.St → Hp → Prop} (hT : SqT K H T [x, y]) (h : R ((σ.set i (some x)).set j (some y)) H) : gTup K 2 (gCons (gName i) (gCons (gName j) gNil)) (.ref T) σ H R :=
  ⟨T, _, rfl, hT, rfl, _, _, rfl, _, _, rfl, rfl, h⟩
theorem walk_zipT {K : PySem.W.Frag} {a b : Addr} {xs ys : List V} {n : Nat} (hn : n = min xs.length ys.length) : Walk (RZ.ItzT K a b) n (fun H => SqT K H a xs ∧ SqT K H b ys) (YPair (fun i => xs[i]?) (fun i => ys[i]?)) := by
  subst hn
  refine ⟨fun i H hi q => ?_, fun H q => ⟨xs, ys, q.1, q.2, by omega⟩, fun i H v H' _ q y => ?_⟩
  · have h1 : i < xs.length := by omega
    have h2 : i < ys.length := by omega
    exact ⟨xs, ys, xs[i], ys[i], q.1, q.2, by simp [h1], by simp [h2]⟩
  · obtain ⟨T, x, z, h1, h2, h3, h4, h5⟩ := y
    exact ⟨T, x, z, h1, h2, h3, h4 xs q.1, h5 ys q.2⟩
/-! ### order of pairs -/
def ltB (p q : Int × Int) : Bool := if p.1 = q.1 then decide (p.2 < q.2) else decide (p.1 < q.1)
theorem lex_pair (p q : Int × Int) : HT.lexLt [p.1, p.2] [q.1, q.2] = ltB p q := by
  unfold ltB
  rw [HT.lexLt_cons, HT.lexLt_cons, HT.lexLt_nil_nil]
  by_cases h : p.1 = q.1
  · rw [if_pos h, if_pos h]
    by_cases h2 : p.2 = q.2
    · rw [if_pos h2, h2]
      simp
    · rw [if_neg h2]
  · rw [if_neg h, if_neg h]
theorem rv_ltP {K : PySem.W.Frag} {H : Hp} {x y : V} {p q : Int × Int} (hx : PairV H x p) (hy : PairV H y q) : RV (rLtT K) x y H (.bl (ltB p q)) := by
  obtain ⟨t, rfl, ht⟩ := hx
  obtain ⟨u, rfl, hu⟩ := hy
  exact rv_val fun H1 e Q k => ⟨t, u, [p.1, p.2], [q.1, q.2], rfl, rfl, SqT.of (e _ _ ht), SqT.of (e _ _ hu), by rw [lex_pair]; exact k⟩
/-- ascending, no pair twice -/
def asc : List (Int × Int) → Bool
  | [] => true
  | [_] => true
  | p :: q :: r => ltB p q && asc (q :: r)
end My
/-! is_rising, is_pair_of, Net of what is right -/
namespace My
open PySem PySem.Spec PyProof.Rows L2 Evl
theorem ps_dead {X : Cx} {st : Stmt} : PS X st (fun _ _ _ => False) := ⟨fun _ _ _ _ _ _ h => h.elim⟩
section
variable {P : Program} {w : World} {K : PySem.W.Frag} {mg : Str → Option Value} {base : Heap}
def spRising (K : PySem.W.Frag) : Sp := fun vs H Q _ => ∃ (a : Addr) (xs : List V) (ks : List (Int × Int)), vs = [.ref a] ∧ SqT K H a xs ∧ PrL H xs ks ∧ ks.length ≤ 300 ∧ RetV (.bl (asc ks)) H Q
theorem scRi : FnScope ["value", "one", "other"] ["value"] (defScope s_is_rising) := ⟨rfl, rfl, rfl, by decide +kernel, rfl, by decide +kernel, by decide +kernel⟩
theorem asc_all : ∀ ks : List (Int × Int), ((List.range (min ks.length (ks.length - 1))).map fun i => ltB (ks.getD i (0, 0)) (ks.getD (i + 1) (0, 0))).all id = asc ks
  | [] => rfl
  | [_] => rfl
  | p :: q :: r => by
    have ih := asc_all (q :: r)
    have e : min (p :: q :: r).length ((p :: q :: r).length - 1) = min (q :: r).length ((q :: r).length - 1) + 1 := by
      simp only [List.length_cons]
      omega
    rw [e, List.range_succ_eq_map, List.map_cons, List.map_map, List.all_cons]
    show (ltB p q && _) = (ltB p q && asc (q :: r))
    rw [← ih]
    rfl
theorem ok_rising {f : Addr} {fd : FuncData} (F : Fun K "is_rising" "is_rising" s_is_rising f fd) (B : CkB mg) : FnOk P w K mg base CX0 1 f fd ["value"] (spRising K) := by
  refine F.ok scRi (fun vs H Q E h => ?_) (fun cdv A outer s H vs Q E hr h => ?_)
  · obtain ⟨a, xs, ks, rfl, _⟩ := h
    rfl
  · obtain ⟨a, xs, ks, rfl, hx, hk, hl, k⟩ := h
    have hu0 := hr.units0
    refine ⟨_, pss_one (ps_ret (pe_callB (call_allB rfl) (by rfl) B.all boot_all (pa_cons (pe_lc (own := [("one", 1), ("other", 2)]) (g := gTup K 2 (gCons (gName 1) (gCons (gName 2) gNil))) rfl scRi.nd
      (RZ.pi_zipA (by rfl) B.zip (pa_cons (pv 0) (pa_cons (pe_slice sl_tupA (pv 0) (po_some pe_int) po_none) pa_nil))) (blkOk_by (N := ["value", "one", "other"]) (sc := defScope s_is_rising) (by decide +kernel))
      (fun _ _ _ _ _ => pg_tup rfl (pgs_cons (pg_name (i := 1) scRi.nd rfl (Or.inl rfl)) (pgs_cons (pg_name (i := 2) scRi.nd rfl (Or.inl rfl)) pgs_nil))) (fun _ _ _ _ _ => pts_nil) (fun _ _ _ _ _ => pe_cmpR (r := rLtT K) (op_ltT hu0) (pv 1) (pv 2) (nomark _))) pa_nil))), ?_⟩
    have hlen := hk.len
    have hLC : EvL (tLc (RZ.iZipA K (tCons (tVar 0) (tCons (tSl (rSlA K) (tVar 0) (tPart (tC (.int 1))) tNoPart) tNil))) (gTup K 2 (gCons (gName 1) (gCons (gName 2) gNil))) tYes (tOp (rLtT K) (tVar 1) (tVar 2)) [1, 2]) [some (.ref a), none, none] H
        (given (min xs.length (xs.drop 1).length) (fun _ => true) fun i => V.bl (ltB (ks.getD i (0, 0)) (ks.getD (i + 1) (0, 0)))) := by
      refine el_lcW (n := min xs.length (xs.drop 1).length) (Y := YPair (fun i => xs[i]?) (fun i => (xs.drop 1)[i]?)) _ _ (by rw [List.length_drop]; omega) (fun H1 e1 R hR => ?_) (fun i x H1 H2 hi e1 y => ?_)
      · refine ⟨_, rfl, es_sl (es_var rfl (ex_t e1 hx)) (eo_some ev_c) eo_none H1 (Ex.refl _) _ fun p H2 e2 hp => ⟨a, p, xs, _, rfl, .inr ⟨ex_t (e1.trans e2) hx, hp, hR _ H2 e2 (Walk.mono (walk_zipT (K := K) (a := a) (b := p) (xs := xs) (ys := xs.drop 1) rfl) (fun H' e' => ⟨ex_t ((e1.trans e2).trans e') hx, ?_⟩) fun _ _ _ _ _ _ y => y)⟩⟩⟩
        have z := ex_t e' hp
        rw [show cutV xs (some 1) none = xs.drop 1 from cut_from xs 1] at z
        exact z
      · obtain ⟨T, u, v, rfl, hT, rfl, hu, hv⟩ := y
        obtain ⟨p, hp, pu⟩ := hk.get i u hu
        replace hv : (xs.drop 1)[i]? = some v := hv
        rw [List.getElem?_drop] at hv
        obtain ⟨q, hq, qv⟩ := hk.get (1 + i) v hv
        have e3 : ltB (ks.getD i (0, 0)) (ks.getD (i + 1) (0, 0)) = ltB p q := by
          rw [List.getD_eq_getElem?_getD, List.getD_eq_getElem?_getD, hp, Nat.add_comm i 1, hq]
          rfl
        refine ⟨Ex.new hT, _, fun R hR => g_pair hR, rfl, fun H3 _ Q q => q H3 (Ex.refl _), fun _ => ?_⟩
        rw [e3]
        exact ev_op (ev_var rfl) (ev_var rfl) (rv_ltP pu qv)
    refine s_ret (v := .bl (asc ks)) (ev_is (ev_all (el_is (ys := ((List.range (min ks.length (ks.length - 1))).map fun i => ltB (ks.getD i (0, 0)) (ks.getD (i + 1) (0, 0))).map V.bl) hLC ?_)) (by rw [asc_all])) (fun H1 e1 => k.go e1)
    rw [given_all, List.map_map, List.length_drop, hlen]
    rfl
/-! ### is_pair_of -/
def pairB (m : Int) (p : Int × Int) : Bool := numV (.int p.1) 0 (m - 1) && (numV (.int p.2) 0 (m - 1) && decide (p.1 < p.2))
def spPairOf : Sp := fun vs H Q _ => ∃ (m : Int) (x : V) (p : Int × Int), vs = [.int m, x] ∧ PairV H x p ∧ RetV (.bl (pairB m p)) H Q
theorem scPo : FnScope ["many", "value"] ["many", "value"] (defScope s_is_pair_of) := ⟨rfl, rfl, rfl, by decide +kernel, rfl, by decide +kernel, by decide +kernel⟩
theorem sp_number {H : Hp} {x : V} {lo hi : Int} (hx : flatV x = true) : SpV spNumber [x, .int lo, .int hi] H (.bl (numV x lo hi)) := fun H1 e Q q E => ⟨x, lo, hi, rfl, hx, fun H2 e2 => q H2 e2⟩
theorem ok_pairOf {f fN fW : Addr} {fd fdN fdW : FuncData} (F : Fun K "is_pair_of" "is_pair_of" s_is_pair_of f fd) (B : CkB mg) (FN : Fun K "is_number" "is_number" s_is_number fN fdN) (mgN : mg "is_number" = some (.ref fN)) (FW : Fun K "is_whole" "is_whole" s_is_whole fW fdW) (mgW : mg "is_whole" = some (.ref fW)) :
    FnOk P w K mg base CX0 3 f fd ["many", "value"] spPairOf := by
  have GN : FnOk P w K mg base CX0 2 fN fdN ["value", "least", "most"] spNumber := ok_number FN B FW mgW
  have bN : Binds K fdN ["value", "least", "most"] [] := FN.binds (ps := ["value", "least", "most"]) fun _ _ _ _ _ _ us hl => match us, hl with | [_, _, _], _ => rfl
  refine F.ok scPo (fun vs H Q E h => ?_) (fun cdv A outer s H vs Q E hr h => ?_)
  · obtain ⟨m, x, p, rfl, _⟩ := h
    rfl
  · obtain ⟨m, x, p, rfl, ⟨t, rfl, ht⟩, k⟩ := h
    refine ⟨_, pss_cons (ps_if (PW.pt (pw_or (pt_not (pt_val (pe_callB call_isi (by rfl) B.isi boot_isi (pa_cons (pv 1) (pa_cons (pe_bltn (v := .ty "tuple") (by rfl) B.tup boot_tupT rfl) pa_nil)))))
        (pw_or1 (pt_cmpR op_ne (pe_callB call_len_seq (by rfl) B.len PySem.boot_len (pa_cons (pv 1) pa_nil)) pe_int (nomark _))))) (pss_one (ps_ret pe_bl)) pss_nil)
      (pss_one (ps_ret (pe_and (pe_call GN hr (by rfl) mgN FN.kp bN .nil pass0 (pa_cons (pe_ix ix_tup (pv 1) pe_int (fun _ _ => rfl)) (pa_cons pe_int (pa_cons (pe_op op_sub (pv 0) pe_int) pa_nil))))
        (pe_and (pe_call GN hr (by rfl) mgN FN.kp bN .nil pass0 (pa_cons (pe_ix ix_tup (pv 1) pe_int (fun _ _ => rfl)) (pa_cons pe_int (pa_cons (pe_op op_sub (pv 0) pe_int) pa_nil))))
        (pe_one (pe_cmpR op_lt (pe_ix ix_tup (pv 1) pe_int (fun _ _ => rfl)) (pe_ix ix_tup (pv 1) pe_int (fun _ _ => rfl)) (nomark _))))))), ?_⟩
    have i0 : ∀ H', Ex H H' → Ev (tOp (rIxT K) (tVar 1) (tC (.int 0))) [some (.int m), some (.ref t)] H' (.int p.1) := fun H' e => ev_op (ev_var rfl) ev_c (rv_ixT (SqT.of (e _ _ ht)) rfl)
    have i1 : ∀ H', Ex H H' → Ev (tOp (rIxT K) (tVar 1) (tC (.int 1))) [some (.int m), some (.ref t)] H' (.int p.2) := fun H' e => ev_op (ev_var rfl) ev_c (rv_ixT (SqT.of (e _ _ ht)) rfl)
    refine q_when (b := false) (et_is (et_or (et_not (et_B (ev_isi (ev_var rfl) (.ty _) (fun _ e => ty_tup (SqT.of (e _ _ ht))) (b := true) rfl))) (fun _ => et_test (ev_op (ev_lenS (es_var rfl (SqT.of ht))) ev_c (rv_ne rfl)))) (by rfl)) (fun z => by cases z) (fun _ H1 e1 => ?_)
    refine s_ret (ev_andV (ev_call (ea_cons (i0 _ e1) (ea_cons ev_c (ea_cons (ev_op (ev_var rfl) ev_c rv_I0) ea_nil))) (sp_number rfl)) (fun _ => ev_andV (ev_call (ea_cons (i1 _ e1) (ea_cons ev_c (ea_cons (ev_op (ev_var rfl) ev_c rv_I0) ea_nil))) (sp_number rfl)) (fun _ => ev_op (i0 _ e1) (i1 _ e1) rv_I0))) (fun H2 e2 => k.go (e1.trans e2))
/-! ### Net -/
structure NtF (K : PySem.W.Frag) (mg : Str → Option Value) (C fI : Addr) : Prop where
  cl : Cls K C
  nM : NoAttr K C "many"
  nT : NoAttr K C "ties"
  mkr : Mk K C fI
  g : mg "Net" = some (.ref C)
  most : ∃ t, mg "MOST_POINTS" = some (.int 24 t)
def nf (m : Int) (a : Addr) : List (Str × V) := [("many", .int m), ("ties", .ref a)]
theorem nf_eq (m : Int) (a : Addr) : putF "ties" (.ref a) (putF "many" (.int m) []) = nf m a := by
  have h : ¬ (("many" : Str) = "ties") := by decide +kernel
  show (if ("many" : Str) = "ties" then _ else (("many" : Str), V.int m) :: [(("ties" : Str), V.ref a)]) = nf m a
  rw [if_neg h]
  rfl
/-- a net as the class lets it be -/
structure OkNet (m : Int) (ks : List (Int × Int)) : Prop where
  lo : 1 ≤ m
  hi : m ≤ 24
  tie : ∀ p ∈ ks, 0 ≤ p.1 ∧ p.1 < p.2 ∧ p.2 < m
  asc : asc ks = true
  few : ks.length ≤ 300
/-- a Net at x -/
def NetV (K : PySem.W.Frag) (C : Addr) (H : Hp) (x : V) (m : Int) (ks : List (Int × Int)) : Prop := ∃ (s dx a : Addr) (xs : List V), x = .ref s ∧ H s = some (.ins C dx (nf m a)) ∧ SqT K H a xs ∧ PrL H xs ks
theorem NetV.up {C : Addr} {H H' : Hp} {x : V} {m : Int} {ks : List (Int × Int)} (e : Ex H H') (h : NetV K C H x m ks) : NetV K C H' x m ks :=
  let ⟨s, dx, a, xs, h1, h2, h3, h4⟩ := h
  ⟨s, dx, a, xs, h1, e _ _ h2, ex_t e h3, h4.up e⟩
def spNetI (K : PySem.W.Frag) (C : Addr) : Sp := fun vs H Q _ => ∃ (s dx a : Addr) (m : Int) (xs : List V) (ks : List (Int × Int)), vs = [.ref s, .int m, .ref a] ∧ H s = some (.ins C dx []) ∧ SqT K H a xs ∧ PrL H xs ks ∧ OkNet m ks ∧
  ∀ H' : Hp, (∀ b o, b ≠ s → H b = some o → H' b = some o) → H' s = some (.ins C dx (nf m a)) → Q .non H'
theorem scNi : FnScope ["self", "many", "ties", "tie"] ["self", "many", "ties"] (defScope s_Net_init) := ⟨rfl, rfl, rfl, by decide +kernel, rfl, by decide +kernel, by decide +kernel⟩
theorem num_in {i lo hi : Int} (h1 : -(10 ^ 18 : Int) < i) (h2 : i < 10 ^ 18) (h3 : lo ≤ i) (h4 : i ≤ hi) : numV (.int i) lo hi = true := by
  show ((decide (-(10 ^ 18 : Int) < i) && decide (i < 10 ^ 18)) && (decide (lo ≤ i) && decide (i ≤ hi))) = true
  rw [decide_eq_true h1, decide_eq_true h2, decide_eq_true h3, decide_eq_true h4]
  rfl
theorem pair_in {m : Int} {p : Int × Int} (hm : m ≤ 24) (h : 0 ≤ p.1 ∧ p.1 < p.2 ∧ p.2 < m) : pairB m p = true := by
  unfold pairB
  rw [num_in (by omega) (by omega) (by omega) (by omega), num_in (by omega) (by omega) (by omega) (by omega)]
  simp
  exact h.2.1
theorem ok_netI {f fP fR fN fW C fI : Addr} {fd fdP fdR fdN fdW : FuncData} (F : Fun K "__init__" "Net.__init__" s_Net_init f fd) (B : CkB mg) (T : NtF K mg C fI) (FP : Fun K "is_pair_of" "is_pair_of" s_is_pair_of fP fdP) (mgP : mg "is_pair_of" = some (.ref fP))
    (FR : Fun K "is_rising" "is_rising" s_is_rising fR fdR) (mgR : mg "is_rising" = some (.ref fR))
    (FN : Fun K "is_number" "is_number" s_is_number fN fdN) (mgN : mg "is_number" = some (.ref fN)) (FW : Fun K "is_whole" "is_whole" s_is_whole fW fdW) (mgW : mg "is_whole" = some (.ref fW)) :
    FnOk P w K mg base CX0 4 f fd ["self", "many", "ties"] (spNetI K C) := by
  have GN : FnOk P w K mg base CX0 2 fN fdN ["value", "least", "most"] spNumber := ok_number FN B FW mgW
  have bN : Binds K fdN ["value", "least", "most"] [] := FN.binds (ps := ["value", "least", "most"]) fun _ _ _ _ _ _ us hl => match us, hl with | [_, _, _], _ => rfl
  have GP : FnOk P w K mg base CX0 3 fP fdP ["many", "value"] spPairOf := ok_pairOf FP B FN mgN FW mgW
  have bP : Binds K fdP ["many", "value"] [] := FP.binds (ps := ["many", "value"]) fun _ _ _ _ _ _ us hl => match us, hl with | [_, _], _ => rfl
  have GR : FnOk P w K mg base CX0 1 fR fdR ["value"] (spRising K) := ok_rising FR B
  have bR : Binds K fdR ["value"] [] := FR.binds (ps := ["value"]) fun _ _ _ _ _ _ us hl => match us, hl with | [_], _ => rfl
  obtain ⟨tk24, g24⟩ := T.most
  refine F.ok scNi (fun vs H Q E h => ?_) (fun cdv A outer s H vs Q E hr h => ?_)
  · obtain ⟨s, dx, a, m, xs, ks, rfl, _⟩ := h
    rfl
  · obtain ⟨sf, dx, a, m, xs, ks, rfl, hs, hx, hk, ok, k⟩ := h
    have hr2 := hr.mono (show 2 ≤ 3 by decide)
    have hr1 := hr.mono (show 1 ≤ 3 by decide)
    refine ⟨_, pss_cons (ps_if (pt_not (pt_val (pe_call GN hr2 (by rfl) mgN FN.kp bN .nil pass0 (pa_cons (pv 1) (pa_cons pe_int (pa_cons (pe_glob (v := .int 24) (by rfl) g24 ⟨tk24, rfl⟩) pa_nil)))))) (pss_one ps_dead) pss_nil)
      (pss_cons (ps_if (PW.pt (pw_or (pt_not (pt_val (pe_callB call_isi (by rfl) B.isi boot_isi (pa_cons (pv 2) (pa_cons (pe_bltn (v := .ty "tuple") (by rfl) B.tup boot_tupT rfl) pa_nil)))))
        (pw_or (pt_not (pt_val (pe_callB (call_allB rfl) (by rfl) B.all boot_all (pa_cons (pe_lc (own := [("tie", 3)]) (g := gName 3) rfl scNi.nd (pi_tup (pv 2)) (blkOk_by (N := ["self", "many", "ties", "tie"]) (sc := defScope s_Net_init) (by decide +kernel))
            (fun _ _ _ _ _ => pg_name (i := 3) scNi.nd rfl (Or.inl rfl)) (fun _ _ _ _ _ => pts_nil) (fun _ _ _ _ _ => pe_call GP hr (by rfl) mgP FP.kp bP .nil pass0 (pa_cons (pv 1) (pa_cons (pv 3) pa_nil)))) pa_nil))))
        (pw_or1 (pt_not (pt_val (pe_call GR hr1 (by rfl) mgR FR.kp bR .nil pass0 (pa_cons (pv 2) pa_nil)))))))) (pss_one ps_dead) pss_nil)
      (pss_cons (ps_fld (pv 0) (pv 1) rfl) (pss_one (ps_fld (pv 0) (pv 2) rfl)))), ?_⟩
    refine q_when (b := false) (et_is (et_not (et_B (ev_call (ea_cons (ev_var rfl) (ea_cons ev_c (ea_cons ev_c ea_nil))) (sp_number rfl)))) (by rw [num_in (by have := ok.lo; omega) (by have := ok.hi; omega) ok.lo ok.hi]; rfl)) (fun z => by cases z) (fun _ H1 e1 => ?_)
    have hlen := hk.len
    have few := ok.few
    have hLC : EvL (tLc (iTup K (tVar 2)) (gName 3) tYes (tCall spPairOf [] E0 (tCons (tVar 1) (tCons (tVar 3) tNil))) [3]) [some (.ref sf), some (.int m), some (.ref a), none] H1 (given xs.length (fun _ => true) fun i => V.bl (pairB m (ks.getD i (0, 0)))) := by
      refine el_lcW (n := xs.length) (Y := YAt xs) _ _ (by omega) (fun H2 e2 R hR => ⟨_, rfl, a, rfl, ⟨xs, ex_t (e1.trans e2) hx⟩, hR _ H2 (Ex.refl _) (Walk.mono (walk_tup (K := K) (a := a) (xs := xs)) (fun H' e' => ex_t ((e1.trans e2).trans e') hx) fun _ _ _ _ _ _ y => y)⟩) (fun i x H2 H3 hi e2 y => ?_)
      obtain ⟨rfl, hy⟩ := y
      obtain ⟨p, hp, px⟩ := hk.get i x hy
      refine ⟨Ex.refl _, _, fun R hR => hR, rfl, fun H3 _ Q q => q H3 (Ex.refl _), fun _ => ?_⟩
      rw [List.getD_eq_getElem?_getD, hp]
      exact ev_call (ea_cons (ev_var rfl) (ea_cons (ev_var rfl) ea_nil)) (fun H3 e3 Q q E => ⟨m, x, p, rfl, px.up (e1.trans e3), fun H4 e4 => q H4 e4⟩)
    refine q_when (b := false) (et_is (et_or (et_not (et_B (ev_isi (ev_var rfl) (.ty _) (fun _ e => ty_tup (ex_t (e1.trans e) hx)) (b := true) rfl)))
      (fun _ => et_or (et_not (et_B (ev_all (el_is (ys := (ks.map (pairB m)).map V.bl) hLC ?_)))) (fun _ => et_not (et_B (ev_call (ea_cons (ev_var rfl) ea_nil) (fun H3 e3 Q q E => ⟨a, xs, ks, rfl, ex_t (e1.trans e3) hx, hk.up (e1.trans e3), few, fun H4 e4 => q H4 e4⟩)))))) ?_) (fun z => by cases z) (fun _ H2 e2 => ?_)
    · rw [given_all, hlen, List.map_map]
      refine List.ext_getElem (by simp) fun i h1 h2 => ?_
      have hi : i < ks.length := by simpa using h1
      simp [List.getD_eq_getElem?_getD, hi]
    · have e3 : (ks.map (pairB m)).all id = true := by
        rw [List.all_map]
        exact List.all_eq_true.mpr fun p hp => pair_in ok.hi (ok.tie p hp)
      rw [e3, ok.asc]
      rfl
    · have e12 := e1.trans e2
      refine ⟨_, rfl, _, rfl, sf, C, dx, [], rfl, e12 _ _ hs, T.cl, T.nM, (by show 0 < 1000; decide), ?_⟩
      refine ⟨_, rfl, _, rfl, sf, C, dx, _, rfl, upd_same, T.cl, T.nT, (by show 1 < 1000; decide), ?_⟩
      refine k _ (fun b o hb ho => ?_) ?_
      · rw [upd_ne hb, upd_ne hb]
        exact e12 _ _ ho
      · rw [upd_same, nf_eq]
end
end My
namespace My
open PySem L2 Evl
abbrev sBegun : Stmt := s_law_begun
abbrev sBlended : Stmt := s_law_blended
abbrev sDraw : Stmt := s_law_draw
abbrev sPick : Stmt := s_law_pick

/-- the dict of the source of draws -/
def stK (g c : Addr) (left turn : Int) : List (Key × V) := [(.inr "great", .ref g), (.inr "cells", .ref c), (.inr "left", .int left), (.inr "turn", .int turn)]
/-- the source of draws: great numbers, cells, what is left, the turn -/
structure Src where
  gs : List Int
  cs : List Int
  left : Int
  turn : Int
/-- it stands at d, its lists at g and c -/
def StX (H : Hp) (d g c : Addr) (s : Src) : Prop := H d = some (.dK (stK g c s.left s.turn)) ∧ H g = some (.lst (s.gs.map V.int)) ∧ H c = some (.lst (s.cs.map V.int)) ∧ g ≠ c ∧ 0 ≤ s.left ∧ ∀ x ∈ s.gs, 0 ≤ x
/-- blended for one prime, for all three -/
def blP (cs : List Int) (t p : Int) : Int := cs.foldl (fun b z => (b * 69621 + z + t) % p) (39373 * t + p / 67)
def blN (cs : List Int) (t : Int) : Int := ((0 * 2147483647 + blP cs t 2147482801 ^ 5 % 2147482801) * 2147483647 + blP cs t 2147482763 ^ 5 % 2147482763) * 2147483647 + blP cs t 2147482739 ^ 5 % 2147482739
/-- the number to draw from, and the source behind it -/
def Src.fill (s : Src) : Src := if s.left = 0 then (match s.gs with
    | g :: r => { s with gs := r, left := g }
    | [] => { s with turn := s.turn + 1, left := blN s.cs (s.turn + 1) }) else s
def Src.val (s : Src) (n : Int) : Int := s.fill.left % n
def Src.next (s : Src) (n : Int) : Src := { s.fill with left := s.fill.left / n }
/-- all stands but d and g -/
def Kp (d g : Addr) (H H' : Hp) : Prop := ∀ b o, b ≠ d → b ≠ g → H b = some o → H' b = some o
/-- the built-ins that the draws use -/
structure DrB (mg : Str → Option Value) : Prop where
  abs : mg "abs" = none
  int : mg "int" = none
  len : mg "len" = none

def spBegun (K : PySem.W.Frag) : Sp := fun vs H Q _ => ∃ (a : Addr) (ns : List Int), vs = [.ref a] ∧ SqL K H a (ns.map V.int) ∧ ns.length ≤ 63 ∧
  ∀ (d g c : Addr) (H' : Hp) (s : Src), H d = none → H g = none → H c = none → StX H' d g c s → s.left = 0 → s.turn = 0 → s.cs = ns.map (fun z => if z < 0 then -z else z) → Ex H H' → Q (.ref d) H'

section
variable {P : Program} {w : World} {K : PySem.W.Frag} {mg : Str → Option Value} {base : Heap}
theorem scB : FnScope ["script", "great", "cell"] ["script"] (defScope sBegun) := ⟨rfl, rfl, rfl, by decide +kernel, rfl, by decide +kernel, by decide +kernel⟩
theorem ints_map {xs : List V} (h : ∀ x ∈ xs, ∃ i, x = V.int i) : ∃ l : List Int, xs = l.map V.int := by
  induction xs with
  | nil => exact ⟨[], rfl⟩
  | cons a r ih =>
    obtain ⟨i, rfl⟩ := h a (List.mem_cons_self ..)
    obtain ⟨l, e⟩ := ih fun x hx => h x (List.mem_cons_of_mem _ hx)
    exact ⟨i :: l, by rw [e]; rfl⟩
theorem given_ints {n : Nat} {f : Nat → Bool} {v : Nat → Int} : ∃ l : List Int, given n f (fun i => V.int (v i)) = l.map V.int := by
  refine ints_map fun x hx => ?_
  unfold given at hx
  obtain ⟨i, _, rfl⟩ := List.mem_map.mp hx
  exact ⟨_, rfl⟩
theorem given_all' {n : Nat} {v : Nat → V} : given n (fun _ => true) v = (List.range n).map v := by
  unfold given
  rw [List.filter_eq_self.mpr fun _ _ => rfl]
theorem ok_begun {f : Addr} {fd : FuncData} (F : Fun K "_law_begun" "_law_begun" sBegun f fd) (B : DrB mg) : FnOk P w K mg base CX0 1 f fd ["script"] (spBegun K) := by
  refine F.ok scB (fun vs H Q E h => ?_) (fun cdv A outer s H vs Q E hr h => ?_)
  · obtain ⟨a, ns, rfl, _⟩ := h
    rfl
  · obtain ⟨a, ns, rfl, hS, hl, k⟩ := h
    refine ⟨_, pss_cons (ps_setLc (i := 1) (own := [("cell", 2)]) (g := gName 2) rfl scB.nd rfl rfl (sw_true rfl rfl rfl (by decide +kernel)) (pi_list (pv 0)) (blkOk_by (N := ["script", "great", "cell"]) (sc := defScope sBegun) (by decide +kernel))
        (fun _ _ _ _ _ => pg_name (i := 2) scB.nd rfl (Or.inl rfl)) (fun _ _ _ _ _ => pts_one (pt_cmpR op_ge (pe_callB call_abs (by rfl) B.abs (by decide +kernel) (pa_cons (pv 2) pa_nil)) (pe_op op_pow pe_int pe_int) (nomark _)))
        (fun _ _ _ _ _ => pe_op op_sub (pe_callB call_abs (by rfl) B.abs (by decide +kernel) (pa_cons (pv 2) pa_nil)) (pe_op op_pow pe_int pe_int)))
      (pss_one (ps_ret (pe_disp (pps_cons pe_str (pv 1) (pps_cons pe_str (pe_lc (own := [("cell", 2)]) (g := gName 2) rfl scB.nd (pi_list (pv 0)) (blkOk_by (N := ["script", "great", "cell"]) (sc := defScope sBegun) (by decide +kernel))
        (fun _ _ _ _ _ => pg_name (i := 2) scB.nd rfl (Or.inl rfl)) (fun _ _ _ _ _ => pts_nil) (fun _ _ _ _ _ => pe_callB call_abs (by rfl) B.abs (by decide +kernel) (pa_cons (pv 2) pa_nil)))
        (pps_cons pe_str pe_int (pps_cons pe_str pe_int pps_nil)))) (by rfl) (by rfl) (fun z => by cases z) (by decide)))), ?_⟩
    let z : Nat → Int := fun i => (ns[i]?).getD 0
    let m : Nat → Int := fun i => if z i < 0 then -z i else z i
    have g0 : ∀ (i : Nat) (x : V), (ns.map V.int)[i]? = some x → x = V.int (z i) := fun i x hx => by
      rw [List.getElem?_map] at hx
      cases e : ns[i]? with
      | none => rw [e] at hx; cases hx
      | some y =>
        rw [e] at hx
        show x = V.int ((ns[i]?).getD 0)
        rw [e]
        exact (Option.some.inj hx).symm
    have eAbs : ∀ (z : Int) (H1 : Hp) (σ : L2.St), σ[2]? = some (some (V.int z)) → Ev (tCB (fun xs H Q => ∃ i, xs = [V.int i] ∧ Q (.int (if i < 0 then -i else i)) H) (tCons (tVar 2) tNil)) σ H1 (.int (if z < 0 then -z else z)) :=
      fun z H1 σ hz H2 e Q q => ⟨_, hz, z, rfl, q H2 (Ex.refl H2)⟩
    have ePow : ∀ (H1 : Hp) (σ : L2.St), Ev (tOp (rI CPow fun i j => .int (i ^ j.toNat)) (tC (.int 10)) (tC (.int 18))) σ H1 (.int ((10 : Int) ^ (18 : Int).toNat)) :=
      fun H1 σ => ev_op ev_c ev_c (rv_I ⟨by decide, by decide, by decide⟩)
    have hlen : (ns.map V.int).length ≤ 40000 := by rw [List.length_map]; omega
    have hw : ∀ (σ : L2.St) (x : V), wipe ((wipe [some (V.ref a), none, none] [2]).set 2 (some x)) [2] = wipe [some (V.ref a), none, none] [2] := fun _ _ => rfl
    refine q_asgL (el_lcL (f := fun i => decide ((10 : Int) ^ (18 : Int).toNat ≤ m i)) (v := fun i => V.int (m i - (10 : Int) ^ (18 : Int).toNat)) (ev_var rfl) hS hlen (fun _ => rfl) (fun i x H1 e1 hx => ?_) (fun i x H1 e1 hx _ => ?_)) (fun g H1 hg e1 h1 => ?_)
    · have e := g0 i x hx
      subst e
      exact et_test (ev_op (eAbs _ _ _ rfl) (ePow _ _) rv_I0)
    · have e := g0 i x hx
      subst e
      exact ev_op (eAbs _ _ _ rfl) (ePow _ _) rv_I0
    · intro d hd
      refine ⟨_, rfl, ?_⟩
      have e2 : Ex H1 (upd H1 d (.dK [])) := Ex.new hd
      dsimp only [tPairs, tC]
      refine (el_lcL (K := K) (t := tYes) (j := 2) (vs := [2]) (σ := [some (V.ref a), some (V.ref g), none]) (f := fun i => true) (v := fun i => V.int (m i)) (ev_var (i := 0) rfl) (ex_l (e1.trans e2) hS) hlen (fun _ => rfl) (fun i x H1 e1 hx => fun H2 _ Q q => q H2 (Ex.refl H2)) (fun i x H1 e1 hx _ => ?_)) _ (Ex.refl _) _ (fun c H2 hc e3 h2 => ?_)
      · have e := g0 i x hx
        subst e
        exact eAbs _ _ _ rfl
      · refine ⟨e3 d _ upd_same, stK g c 0 0, rfl, by show 4 ≤ 15; decide, ?_⟩
        have eg : given (ns.map V.int).length (fun i => decide ((10 : Int) ^ (18 : Int).toNat ≤ m i)) (fun i => V.int (m i - (10 : Int) ^ (18 : Int).toNat)) = (((List.range (ns.map V.int).length).filter fun i => decide ((10 : Int) ^ (18 : Int).toNat ≤ m i)).map fun i => m i - (10 : Int) ^ (18 : Int).toNat).map V.int := by
          unfold given
          rw [List.map_map]
          rfl
        have ec : given (ns.map V.int).length (fun _ => true) (fun i => V.int (m i)) = (ns.map fun z => if z < 0 then -z else z).map V.int := by
          rw [given_all', List.length_map, List.map_map]
          refine List.ext_getElem (by simp) fun i h1 h2 => ?_
          have hi : i < ns.length := by simpa using h1
          simp [m, z, hi]
        have ndg : d ≠ g := (ne_of_none h1 hd).symm
        have ndc : d ≠ c := ne_of_none upd_same hc
        have ngc : g ≠ c := ne_of_none (e2 g _ h1) hc
        refine k d g c _ ⟨_, ns.map fun z => if z < 0 then -z else z, 0, 0⟩ (fresh_back e1 hd) hg (fresh_back (e1.trans e2) hc) ⟨upd_same, Eq.trans (upd_ne ndg.symm) ((e3 g _ (e2 g _ h1)).trans (by rw [eg])), Eq.trans (upd_ne ndc.symm) (h2.trans (by rw [ec])), ngc, Int.le_refl _, fun x hx => ?_⟩ rfl rfl rfl ?_
        · obtain ⟨i, hi, rfl⟩ := List.mem_map.mp hx
          have z := of_decide_eq_true (List.mem_filter.mp hi).2
          exact Int.sub_nonneg_of_le z
        · exact Ex.mut ((e1.trans e2).trans e3) (fresh_back e1 hd)

theorem ns12 : ¬ ("great" : Str) = "cells" := by decide +kernel
theorem ns13 : ¬ ("great" : Str) = "left" := by decide +kernel
theorem ns14 : ¬ ("great" : Str) = "turn" := by decide +kernel
theorem ns21 : ¬ ("cells" : Str) = "great" := by decide +kernel
theorem ns23 : ¬ ("cells" : Str) = "left" := by decide +kernel
theorem ns24 : ¬ ("cells" : Str) = "turn" := by decide +kernel
theorem ns31 : ¬ ("left" : Str) = "great" := by decide +kernel
theorem ns32 : ¬ ("left" : Str) = "cells" := by decide +kernel
theorem ns34 : ¬ ("left" : Str) = "turn" := by decide +kernel
theorem ns41 : ¬ ("turn" : Str) = "great" := by decide +kernel
theorem ns42 : ¬ ("turn" : Str) = "cells" := by decide +kernel
theorem ns43 : ¬ ("turn" : Str) = "left" := by decide +kernel
theorem nk12 : ¬ (Sum.inr ("great" : Str) : Key) = Sum.inr ("cells" : Str) := fun e => ns12 (Sum.inr.inj e)
theorem nk13 : ¬ (Sum.inr ("great" : Str) : Key) = Sum.inr ("left" : Str) := fun e => ns13 (Sum.inr.inj e)
theorem nk14 : ¬ (Sum.inr ("great" : Str) : Key) = Sum.inr ("turn" : Str) := fun e => ns14 (Sum.inr.inj e)
theorem nk21 : ¬ (Sum.inr ("cells" : Str) : Key) = Sum.inr ("great" : Str) := fun e => ns21 (Sum.inr.inj e)
theorem nk23 : ¬ (Sum.inr ("cells" : Str) : Key) = Sum.inr ("left" : Str) := fun e => ns23 (Sum.inr.inj e)
theorem nk24 : ¬ (Sum.inr ("cells" : Str) : Key) = Sum.inr ("turn" : Str) := fun e => ns24 (Sum.inr.inj e)
theorem nk31 : ¬ (Sum.inr ("left" : Str) : Key) = Sum.inr ("great" : Str) := fun e => ns31 (Sum.inr.inj e)
theorem nk32 : ¬ (Sum.inr ("left" : Str) : Key) = Sum.inr ("cells" : Str) := fun e => ns32 (Sum.inr.inj e)
theorem nk34 : ¬ (Sum.inr ("left" : Str) : Key) = Sum.inr ("turn" : Str) := fun e => ns34 (Sum.inr.inj e)
theorem nk41 : ¬ (Sum.inr ("turn" : Str) : Key) = Sum.inr ("great" : Str) := fun e => ns41 (Sum.inr.inj e)
theorem nk42 : ¬ (Sum.inr ("turn" : Str) : Key) = Sum.inr ("cells" : Str) := fun e => ns42 (Sum.inr.inj e)
theorem nk43 : ¬ (Sum.inr ("turn" : Str) : Key) = Sum.inr ("left" : Str) := fun e => ns43 (Sum.inr.inj e)
theorem st_great {H : Hp} {d g c : Addr} {l t : Int} (e : H d = some (.dK (stK g c l t))) : DGet H d (.str "great") (some (.ref g)) := by
  have q := DGet.k (k := Sum.inr "great") e
  rw [show valV (stK g c l t) (Sum.inr "great") = some (.ref g) from valV_pos rfl] at q
  exact q
theorem st_cells {H : Hp} {d g c : Addr} {l t : Int} (e : H d = some (.dK (stK g c l t))) : DGet H d (.str "cells") (some (.ref c)) := by
  have q := DGet.k (k := Sum.inr "cells") e
  rw [show valV (stK g c l t) (Sum.inr "cells") = some (.ref c) from (valV_neg nk12).trans (valV_pos rfl)] at q
  exact q
theorem st_left {H : Hp} {d g c : Addr} {l t : Int} (e : H d = some (.dK (stK g c l t))) : DGet H d (.str "left") (some (.int l)) := by
  have q := DGet.k (k := Sum.inr "left") e
  rw [show valV (stK g c l t) (Sum.inr "left") = some (.int l) from (valV_neg nk13).trans ((valV_neg nk23).trans (valV_pos rfl))] at q
  exact q
theorem st_turn {H : Hp} {d g c : Addr} {l t : Int} (e : H d = some (.dK (stK g c l t))) : DGet H d (.str "turn") (some (.int t)) := by
  have q := DGet.k (k := Sum.inr "turn") e
  rw [show valV (stK g c l t) (Sum.inr "turn") = some (.int t) from (valV_neg nk14).trans ((valV_neg nk24).trans ((valV_neg nk34).trans (valV_pos rfl)))] at q
  exact q
theorem st_putL {H : Hp} {d g c : Addr} {l t v : Int} (e : H d = some (.dK (stK g c l t))) : DPut H d (.str "left") (.int v) (upd H d (.dK (stK g c v t))) := by
  have q := DPut.k (k := Sum.inr "left") (v := V.int v) e (by show 4 < sizeLine; decide)
  rw [show putK (stK g c l t) (Sum.inr "left") (V.int v) = stK g c v t by unfold putK stK; simp [ns13, ns23, ns43]] at q
  exact q
theorem st_putT {H : Hp} {d g c : Addr} {l t v : Int} (e : H d = some (.dK (stK g c l t))) : DPut H d (.str "turn") (.int v) (upd H d (.dK (stK g c l v))) := by
  have q := DPut.k (k := Sum.inr "turn") (v := V.int v) e (by show 4 < sizeLine; decide)
  rw [show putK (stK g c l t) (Sum.inr "turn") (V.int v) = stK g c l v by unfold putK stK; simp [ns14, ns24, ns34]] at q
  exact q
theorem blP_small (cs : List Int) {turn p : Int} (t0 : 0 ≤ turn) (t1 : turn < 2 ^ 900) (p0 : 0 < p) (p1 : p < 2147483648) : (blP cs (turn + 1) p).natAbs < 2 ^ 1000 := by
  have key : ∀ (l : List Int) (b : Int), 0 ≤ b → b < 2 ^ 1000 → 0 ≤ l.foldl (fun b z => (b * 69621 + z + (turn + 1)) % p) b ∧ l.foldl (fun b z => (b * 69621 + z + (turn + 1)) % p) b < 2 ^ 1000 := by
    intro l
    induction l with
    | nil => exact fun b h1 h2 => ⟨h1, h2⟩
    | cons z r ih =>
      intro b _ _
      have m0 := Int.emod_nonneg (b * 69621 + z + (turn + 1)) (show p ≠ 0 by omega)
      have m1 := Int.emod_lt_of_pos (b * 69621 + z + (turn + 1)) p0
      refine ih _ m0 ?_
      show (b * 69621 + z + (turn + 1)) % p < 2 ^ 1000
      omega
  have d0 : 0 ≤ p / 67 := Int.ediv_nonneg (by omega) (by decide)
  have d1 : p / 67 ≤ p := Int.ediv_le_self _ (by omega)
  obtain ⟨k1, k2⟩ := key cs (39373 * (turn + 1) + p / 67) (by omega) (by omega)
  unfold blP
  omega
theorem op_powW {X : Cx} : OpR X (binaryOp .Pow) (rI (fun i j => 0 ≤ j ∧ j ≤ 1000 ∧ i.natAbs < 2 ^ 1000) fun i j => .int (i ^ j.toNat)) := opI fun i j t u s Q E hc q => by
  refine PyProof.Rows.pow_int hc.1 ?_ q
  have hb := PyProof.Rows.intBits_le hc.2.2
  have h1 : (Builtin.Int.intBits i : Int) * j ≤ 1000 * j := Int.mul_le_mul_of_nonneg_right (by omega) hc.1
  have h2 := hc.2.1
  omega
def spBlended : Sp := fun vs H Q _ => ∃ (d g c : Addr) (s : Src), vs = [.ref d] ∧ StX H d g c s ∧ 0 ≤ s.turn ∧ s.turn < 2 ^ 900 ∧
  ∀ (H' : Hp), StX H' d g c { s with turn := s.turn + 1 } → Kp d g H H' → Q (.int (blN s.cs (s.turn + 1))) H'
theorem scBl : FnScope ["state", "turn", "found", "prime", "blend", "cell"] ["state"] (defScope sBlended) := ⟨rfl, rfl, rfl, by decide +kernel, rfl, by decide +kernel, by decide +kernel⟩
theorem ok_blended {f : Addr} {fd : FuncData} (F : Fun K "_law_blended" "_law_blended" sBlended f fd) (B : DrB mg) : FnOk P w K mg base CX0 1 f fd ["state"] spBlended := by
  refine F.ok scBl (fun vs H Q E h => ?_) (fun cdv A outer s H vs Q E hr h => ?_)
  · obtain ⟨d, g, c, s0, rfl, _⟩ := h
    rfl
  · obtain ⟨d, g, c, ⟨gs, cs, left, turn⟩, rfl, hst, t0, t1, k⟩ := h
    have hu := hu_of hr
    refine ⟨_, pss_cons (ps_par (i := 1) (j := 2) rfl scBl.nd rfl rfl (by decide) rfl rfl (pa_cons (pe_op op_add (pe_dget hu (pv 0) pe_str (fun _ _ => rfl)) pe_int) (pa_cons pe_int pa_nil)) (by rfl))
      (pss_cons (ps_dput hu (pv 0) pe_str (pv 1) rfl)
      (pss_cons (ps_for PassesOwn.never rfl (pi_list (pe_lst (pa_cons pe_int (pa_cons pe_int (pa_cons pe_int pa_nil))))) (pg_name (i := 3) scBl.nd rfl (Or.inl rfl))
        (pss_cons (ps_set (i := 4) scBl.nd rfl (Or.inl rfl) (pe_op op_add (pe_op op_mul pe_int (pv 1)) (pe_op op_fdiv (pv 3) pe_int)))
        (pss_cons (ps_for PassesOwn.never rfl (pi_list (pe_dget hu (pv 0) pe_str (fun _ _ => rfl))) (pg_name (i := 5) scBl.nd rfl (Or.inl rfl))
          (pss_one (ps_set (i := 4) scBl.nd rfl (Or.inl rfl) (pe_op op_mod (pe_callTy call_int1 (by rfl) B.int (by decide +kernel) (pa_cons (pe_op op_add (pe_op op_add (pe_op op_mul (pv 4) pe_int) (pv 5)) (pv 1)) pa_nil)) (pv 3)))))
        (pss_one (ps_set (i := 2) scBl.nd rfl (Or.inl rfl) (pe_op op_add (pe_op op_mul (pv 2) pe_int) (pe_op op_mod (pe_callTy call_int1 (by rfl) B.int (by decide +kernel) (pa_cons (pe_op op_powW (pv 4) pe_int) pa_nil)) (pv 3))))))))
      (pss_one (ps_ret (pv 2))))), ?_⟩
    obtain ⟨hd, hg, hc, ngc, l0, gnn⟩ := hst
    have ndg : d ≠ g := ne_of hd hg (by intro q; cases q)
    have ndc : d ≠ c := ne_of hd hc (by intro q; cases q)
    -- turn, found = (state['turn'] + 1, 0); state['turn'] = turn
    refine ⟨_, rfl, d, _, rfl, st_turn hd, _, _, rfl, rfl, _, _, rfl, ?_⟩
    refine ⟨_, rfl, _, rfl, d, _, rfl, st_putT hd, ?_⟩
    refine ⟨by show 3 ≤ sizeLine; decide, fun l hl => ?_⟩
    have hld : l ≠ d := fun e => by rw [e, upd_same] at hl; cases hl
    have hl0 : H l = none := by rw [upd_ne hld] at hl; exact hl
    have hlg : l ≠ g := fun e => by rw [e, hg] at hl0; cases hl0
    have hlc : l ≠ c := fun e => by rw [e, hc] at hl0; cases hl0
    have hdl := Ne.symm hld
    let H1 : Hp := upd (upd H d (.dK (stK g c left (turn + 1)))) l (.lst [V.int 2147482801, V.int 2147482763, V.int 2147482739])
    have hd1 : H1 d = some (.dK (stK g c left (turn + 1))) := Eq.trans (upd_ne hdl) upd_same
    have hg1 : H1 g = some (.lst (gs.map V.int)) := Eq.trans (upd_ne hlg.symm) (Eq.trans (upd_ne ndg.symm) hg)
    have hc1 : H1 c = some (.lst (cs.map V.int)) := Eq.trans (upd_ne hlc.symm) (Eq.trans (upd_ne ndc.symm) hc)
    let ps : List Int := [2147482801, 2147482763, 2147482739]
    let fo : Nat → Int := fun i => (ps.take i).foldl (fun f p => f * 2147483647 + blP cs (turn + 1) p ^ 5 % p) 0
    refine ⟨l, rfl, ⟨_, SqL.of upd_same⟩, for_list (K := K) (a := l) (xs := [V.int 2147482801, V.int 2147482763, V.int 2147482739])
      (fun i σ H' => H' = H1 ∧ ∃ (v3 v4 v5 : Option V), σ = [some (.ref d), some (.int (turn + 1)), some (.int (fo i)), v3, v4, v5]) ⟨rfl, none, none, none, rfl⟩ (fun i σ H' _ ⟨e, _⟩ => by rw [e]; exact SqL.of upd_same) ?_ ?_⟩
    · rintro i x σ H' hi ⟨rfl, v3, v4, v5, rfl⟩
      obtain ⟨p, rfl, hp, hfo⟩ : ∃ p : Int, x = V.int p ∧ (0 < p ∧ p < 2147483648) ∧ fo (i + 1) = fo i * 2147483647 + blP cs (turn + 1) p ^ 5 % p := by
        match i, hi with
        | 0, h => exact ⟨_, (Option.some.inj h).symm, by decide, rfl⟩
        | 1, h => exact ⟨_, (Option.some.inj h).symm, by decide, rfl⟩
        | 2, h => exact ⟨_, (Option.some.inj h).symm, by decide, rfl⟩
        | i + 3, h => simp at h
      obtain ⟨hp0, hp1⟩ := hp
      -- blend = 39373 * turn + prime // 67
      refine ⟨_, rfl, _, _, rfl, rfl, Or.inl ⟨by decide, by decide⟩, _, rfl, _, _, rfl, rfl, ⟨by decide, by decide⟩, _, _, rfl, rfl, ?_⟩
      -- for cell in state['cells']
      let bl : Nat → Int := fun j => (cs.take j).foldl (fun b z => (b * 69621 + z + (turn + 1)) % p) (39373 * (turn + 1) + p / 67)
      refine ⟨_, rfl, d, _, rfl, st_cells hd1, c, rfl, ⟨_, SqL.of hc1⟩, for_list (K := K) (a := c) (xs := cs.map V.int)
        (fun j σ H' => H' = H1 ∧ ∃ (v5 : Option V), σ = [some (.ref d), some (.int (turn + 1)), some (.int (fo i)), some (.int p), some (.int (bl j)), v5]) ⟨rfl, v5, rfl⟩ (fun i σ H' _ ⟨e, _⟩ => by rw [e]; exact SqL.of hc1) ?_ ?_⟩
      · rintro j y σ H' hj ⟨rfl, v5, rfl⟩
        obtain ⟨z, rfl, hz⟩ : ∃ z, y = V.int z ∧ bl (j + 1) = (bl j * 69621 + z + (turn + 1)) % p := by
          rw [List.getElem?_map] at hj
          obtain ⟨z, hz, rfl⟩ := Option.map_eq_some_iff.mp hj
          refine ⟨z, rfl, ?_⟩
          show (cs.take (j + 1)).foldl _ _ = _
          rw [List.take_add_one, hz, List.foldl_append]
          rfl
        -- blend = int(blend * 69621 + cell + turn) % prime
        refine ⟨_, rfl, _, _, rfl, rfl, Or.inr ⟨by decide, by decide⟩, _, rfl, _, _, rfl, rfl, _, rfl, _, _, rfl, rfl, Or.inl ⟨_, rfl, _, rfl, _, _, rfl, rfl, hp0, ?_⟩⟩
        refine ⟨rfl, some (V.int z), ?_⟩
        rw [hz]
        rfl
      · rintro σ H' ⟨rfl, v5, rfl⟩
        -- found = found * 2147483647 + int(blend ** 5) % prime
        have hb : bl (cs.map V.int).length = blP cs (turn + 1) p := by
          show (cs.take (cs.map V.int).length).foldl _ _ = _
          rw [List.length_map, List.take_length]
          rfl
        refine ⟨_, rfl, _, _, rfl, rfl, Or.inr ⟨by decide, by decide⟩, _, rfl, _, _, rfl, rfl, ⟨by decide, by decide, ?_⟩, Or.inl ⟨_, rfl, _, rfl, _, _, rfl, rfl, hp0, _, _, rfl, rfl, ?_⟩⟩
        · rw [hb]
          exact blP_small cs t0 t1 hp0 hp1
        · refine ⟨rfl, some (.int p), some (.int (bl (cs.map V.int).length)), v5, ?_⟩
          rw [hfo, ← hb]
          rfl
    · rintro σ H' ⟨rfl, v3, v4, v5, rfl⟩
      refine ⟨_, rfl, k H1 ⟨hd1, hg1, hc1, ngc, l0, gnn⟩ fun b o nb ng hb => ?_⟩
      have hbl : b ≠ l := ne_of_none hb hl0
      exact Eq.trans (upd_ne hbl) (Eq.trans (upd_ne nb) hb)

theorem dp_ints {H : Hp} : ∀ gs : List Int, DpAll K H (gs.map V.int) (gs.map PyData.int)
  | [] => .nil
  | a :: r => .cons (.int a) (dp_ints r)
theorem depth_ints : ∀ gs : List Int, PyData.depthAll (gs.map PyData.int) = 0
  | [] => rfl
  | a :: r => by
    show max 0 (PyData.depthAll (r.map PyData.int)) = 0
    rw [depth_ints r]
    rfl
theorem canLay_ints : ∀ gs : List Int, PyData.canLayAll0 (gs.map PyData.int) = true
  | [] => by simp [PyData.canLayAll0]
  | a :: r => by
    show PyData.canLayAll0 (PyData.int a :: r.map PyData.int) = true
    unfold PyData.canLayAll0
    rw [canLay_ints r]
    simp [PyData.canLay0]
theorem shaped_ints (gs : List Int) : SeqAt.shaped (.list (gs.map PyData.int)) = true := by
  have h1 : PyData.canLay0 (.list (gs.map PyData.int)) = true := by unfold PyData.canLay0; exact canLay_ints gs
  have h2 : PyData.depth (.list (gs.map PyData.int)) = 1 := by
    show PyData.depthAll (gs.map PyData.int) + 1 = 1
    rw [depth_ints]
  unfold SeqAt.shaped
  rw [h1, h2]
  rfl
theorem eqv_ints_nil (gs : List Int) : PyData.eqv (.list (gs.map PyData.int)) (.list []) = gs.isEmpty := by
  cases gs with
  | nil => simp [PyData.eqv, PyData.eqvAll]
  | cons a r => simp [PyData.eqv, PyData.eqvAll]
theorem fill_left {s : Src} (h : 0 ≤ s.left) (hg : ∀ x ∈ s.gs, 0 ≤ x) : 0 ≤ s.fill.left ∧ ∀ x ∈ s.fill.gs, 0 ≤ x := by
  unfold Src.fill
  split
  · cases e : s.gs with
    | nil =>
      refine ⟨?_, fun x hx => ?_⟩
      · show 0 ≤ blN s.cs (s.turn + 1)
        have q : ∀ x p : Int, 0 < p → 0 ≤ x % p := fun x p hp => Int.emod_nonneg x (by omega)
        have q1 := q (blP s.cs (s.turn + 1) 2147482801 ^ 5) 2147482801 (by decide)
        have q2 := q (blP s.cs (s.turn + 1) 2147482763 ^ 5) 2147482763 (by decide)
        have q3 := q (blP s.cs (s.turn + 1) 2147482739 ^ 5) 2147482739 (by decide)
        unfold blN
        omega
      · have hx' : x ∈ ([] : List Int) := hx
        cases hx'
    | cons g r =>
      rw [e] at hg
      exact ⟨hg g List.mem_cons_self, fun x hx => hg x (List.mem_cons_of_mem _ hx)⟩
  · exact ⟨h, hg⟩
def spDraw : Sp := fun vs H Q _ => ∃ (d g c : Addr) (s : Src) (n : Int), vs = [.ref d, .int n] ∧ StX H d g c s ∧ 0 ≤ s.turn ∧ s.turn < 2 ^ 900 ∧ 0 < n ∧ n < 1073741824 ∧
  ∀ (H' : Hp), StX H' d g c (s.next n) → Kp d g H H' → Q (.int (s.val n)) H'
theorem scDr : FnScope ["state", "size_here", "found"] ["state", "size_here"] (defScope sDraw) := ⟨rfl, rfl, rfl, by decide +kernel, rfl, by decide +kernel, by decide +kernel⟩
theorem ok_draw {f fB : Addr} {fd fdB : FuncData} (F : Fun K "_law_draw" "_law_draw" sDraw f fd) (B : DrB mg) (FB : Fun K "_law_blended" "_law_blended" sBlended fB fdB) (mgB : mg "_law_blended" = some (.ref fB)) :
    FnOk P w K mg base CX0 2 f fd ["state", "size_here"] spDraw := by
  have GB : FnOk P w K mg base CX0 1 fB fdB ["state"] spBlended := ok_blended FB B
  have bB : Binds K fdB ["state"] [] := FB.binds (ps := ["state"]) fun _ _ _ _ _ _ us hl => match us, hl with | [_], _ => rfl
  refine F.ok scDr (fun vs H Q E h => ?_) (fun cdv A outer s H vs Q E hr h => ?_)
  · obtain ⟨d, g, c, s0, n, rfl, _⟩ := h
    rfl
  · obtain ⟨d, g, c, s0, n, rfl, hst, hT0, hT1, hn0, hn1, k⟩ := h
    have hu := hu_of hr
    refine ⟨_, pss_cut (ps_if (pt_cmpR op_eq (pe_dget hu (pv 0) pe_str (fun _ _ => rfl)) pe_int (nomark _))
        (pss_one (ps_dput hu (pv 0) pe_str (pe_ifExp (pt_cmpR (op_neD hr.units) (pe_dget hu (pv 0) pe_str (fun _ _ => rfl)) (pe_lst pa_nil) (nomark _))
          (pe_bm PySem.F.plainAttrs_list PySem.F.slot_list_pop PySem.F.type_list_pop mt_popAt (pe_dget hu (pv 0) pe_str (fun _ _ => rfl)) (pa_cons pe_int pa_nil))
          (pe_call GB hr rfl mgB FB.kp bB .nil pass0 (pa_cons (pv 0) pa_nil))) rfl)) pss_nil)
      (pss_cons (ps_set (i := 2) scDr.nd rfl (Or.inl rfl) (pe_op op_mod (pe_callTy call_int1 (by rfl) B.int (by decide +kernel) (pa_cons (pe_dget hu (pv 0) pe_str (fun _ _ => rfl)) pa_nil)) (pv 1)))
      (pss_cons (ps_dput hu (pv 0) pe_str (pe_op op_fdiv (pe_dget hu (pv 0) pe_str (fun _ _ => rfl)) (pv 1)) rfl)
      (pss_one (ps_ret (pv 2))))), ?_⟩
    obtain ⟨gs, cs, left, turn⟩ := s0
    obtain ⟨hd, hg, hc, ngc, l0, gnn⟩ := id hst
    have fl := fill_left l0 gnn
    have ndg : d ≠ g := ne_of hd hg (by intro q; cases q)
    have ndc : d ≠ c := ne_of hd hc (by intro q; cases q)
    refine ⟨fun σ H' => σ = [some (.ref d), some (.int n), none] ∧ Kp d g H H' ∧ StX H' d g c (Src.fill ⟨gs, cs, left, turn⟩), ?_, ?_⟩
    · refine ⟨_, rfl, d, _, rfl, st_left hd, rfl, _, rfl, ?_⟩
      refine ite2 (fun hz => ?_) (fun hz => ?_)
      · have hz : left = 0 := by
          have z := of_decide_eq_true hz
          exact V.int.inj z
        subst hz
        refine ⟨_, rfl, d, _, rfl, st_great hd, Nat.zero_le _, fun l hl => ?_⟩
        have hlg : l ≠ g := fun e => by rw [e, hg] at hl; cases hl
        have hld : l ≠ d := fun e => by rw [e, hd] at hl; cases hl
        have hlc : l ≠ c := fun e => by rw [e, hc] at hl; cases hl
        have hd1 : upd H l (.lst []) d = some (.dK (stK g c 0 turn)) := Eq.trans (upd_ne hld.symm) hd
        have hg1 : upd H l (.lst []) g = some (.lst (gs.map V.int)) := Eq.trans (upd_ne hlg.symm) hg
        have hc1 : upd H l (.lst []) c = some (.lst (cs.map V.int)) := Eq.trans (upd_ne hlc.symm) hc
        have kp1 : ∀ b o, H b = some o → upd H l (.lst []) b = some o := fun b o hb => Eq.trans (upd_ne (ne_of_none hb hl)) hb
        refine ⟨_, _, Dp.lst (SqL.of hg1) (dp_ints gs), Dp.lst (SqL.of upd_same) .nil, shaped_ints gs, shaped_ints [], _, rfl, ?_⟩
        rw [eqv_ints_nil]
        cases gs with
        | nil =>
          refine iteF ?_
          refine ⟨_, rfl, d, g, c, ⟨[], cs, 0, turn⟩, rfl, ⟨hd1, hg1, hc1, ngc, Int.le_refl _, gnn⟩, hT0, hT1, fun H2 st2 k2 => ?_⟩
          obtain ⟨hd2, hg2, hc2, _, _, _⟩ := st2
          refine ⟨_, rfl, d, _, rfl, st_putL hd2, rfl, fun b o nb ng hb => ?_, upd_same, Eq.trans (upd_ne ndg.symm) hg2, Eq.trans (upd_ne ndc.symm) hc2, ngc, fl.1, fl.2⟩
          exact Eq.trans (upd_ne nb) (k2 b o nb ng (kp1 b o hb))
        | cons z r =>
          refine iteT ?_
          refine ⟨_, rfl, d, _, rfl, st_great hd1, Or.inl ⟨rfl, _, SqL.of hg1⟩, g, _, 0, 0, V.int z, rfl, rfl, hg1, by decide, by decide, ?_, rfl, ?_⟩
          · show seqIndex? 0 (V.int z :: r.map V.int).length = some 0
            rw [List.length_cons]
            simp [seqIndex?]
          · refine ⟨_, rfl, d, _, rfl, st_putL (Eq.trans (upd_ne ndg) hd1), rfl, fun b o nb ng hb => ?_, upd_same, Eq.trans (upd_ne ndg.symm) upd_same, Eq.trans (upd_ne ndc.symm) (Eq.trans (upd_ne ngc.symm) hc1), ngc, fl.1, fl.2⟩
            exact Eq.trans (upd_ne nb) (Eq.trans (upd_ne ng) (kp1 b o hb))
      · have hz : ¬ left = 0 := fun e => by
          rw [e] at hz
          exact hz (decide_eq_true rfl)
        refine ⟨rfl, fun b o _ _ h => h, ?_⟩
        have e : Src.fill ⟨gs, cs, left, turn⟩ = ⟨gs, cs, left, turn⟩ := if_neg hz
        rw [e]
        exact hst
    · rintro σ H1 ⟨rfl, k1, st1⟩
      have nx : (⟨gs, cs, left, turn⟩ : Src).next n = { (⟨gs, cs, left, turn⟩ : Src).fill with left := (⟨gs, cs, left, turn⟩ : Src).fill.left / n } := rfl
      have vl : (⟨gs, cs, left, turn⟩ : Src).val n = (⟨gs, cs, left, turn⟩ : Src).fill.left % n := rfl
      generalize (⟨gs, cs, left, turn⟩ : Src).fill = s1 at st1 nx vl fl
      obtain ⟨gs1, cs1, left1, turn1⟩ := s1
      obtain ⟨hd1, hg1, hc1, _, l1, gn1⟩ := st1
      -- found = int(state['left']) % size_here; state['left'] = state['left'] // size_here; return found
      refine ⟨_, rfl, d, _, rfl, st_left hd1, Or.inl ⟨_, rfl, _, rfl, _, _, rfl, rfl, hn0, ?_⟩⟩
      refine ⟨_, rfl, d, _, rfl, st_left hd1, _, rfl, _, _, rfl, rfl, ⟨hn0, hn1⟩, _, rfl, d, _, rfl, st_putL hd1, ?_⟩
      refine ⟨_, rfl, ?_⟩
      have := k (upd H1 d (.dK (stK g c (left1 / n) turn1))) (by
        rw [nx]
        exact ⟨upd_same, Eq.trans (upd_ne ndg.symm) hg1, Eq.trans (upd_ne ndc.symm) hc1, ngc, Int.ediv_nonneg l1 (by omega), gn1⟩) (fun b o nb ng hb => Eq.trans (upd_ne nb) (k1 b o nb ng hb))
      rw [vl] at this
      exact this
theorem val_in (s : Src) {n : Int} (h : 0 < n) : 0 ≤ s.val n ∧ s.val n < n := ⟨Int.emod_nonneg _ (by omega), Int.emod_lt_of_pos _ h⟩
def spPick : Sp := fun vs H Q _ => ∃ (d g c a : Addr) (s : Src) (xs : List V), vs = [.ref d, .ref a] ∧ StX H d g c s ∧ 0 ≤ s.turn ∧ s.turn < 2 ^ 900 ∧ H a = some (.lst xs) ∧ a ≠ g ∧ 0 < xs.length ∧ xs.length < 1000000 ∧
  ∀ (H' : Hp) (x : V), StX H' d g c (s.next xs.length) → Kp d g H H' → xs[(s.val xs.length).toNat]? = some x → Q x H'
theorem scPk : FnScope ["state", "several"] ["state", "several"] (defScope sPick) := ⟨rfl, rfl, rfl, by decide +kernel, rfl, by decide +kernel, by decide +kernel⟩
theorem ok_pick {f fD fB : Addr} {fd fdD fdB : FuncData} (F : Fun K "_law_pick" "_law_pick" sPick f fd) (B : DrB mg) (FB : Fun K "_law_blended" "_law_blended" sBlended fB fdB) (mgB : mg "_law_blended" = some (.ref fB))
    (FD : Fun K "_law_draw" "_law_draw" sDraw fD fdD) (mgD : mg "_law_draw" = some (.ref fD)) : FnOk P w K mg base CX0 3 f fd ["state", "several"] spPick := by
  have GD : FnOk P w K mg base CX0 2 fD fdD ["state", "size_here"] spDraw := ok_draw FD B FB mgB
  have bD : Binds K fdD ["state", "size_here"] [] := FD.binds (ps := ["state", "size_here"]) fun _ _ _ _ _ _ us hl => match us, hl with | [_, _], _ => rfl
  refine F.ok scPk (fun vs H Q E h => ?_) (fun cdv A outer s H vs Q E hr h => ?_)
  · obtain ⟨d, g, c, a, s0, xs, rfl, _⟩ := h
    rfl
  · obtain ⟨d, g, c, a, s0, xs, rfl, hst, hT0, hT1, ha, nag, l0, l1, k⟩ := h
    refine ⟨_, pss_one (ps_ret (pe_ix ix_list (pv 1) (pe_call GD hr rfl mgD FD.kp bD .nil pass0 (pa_cons (pv 0) (pa_cons (pe_callB call_len_seq (by rfl) B.len PySem.boot_len (pa_cons (pv 1) pa_nil)) pa_nil))) (fun _ _ => rfl))), ?_⟩
    have nad : a ≠ d := ne_of ha hst.1 (by intro q; cases q)
    refine ⟨_, rfl, _, rfl, _, rfl, a, xs, rfl, Or.inl (SqL.of ha), d, g, c, s0, (xs.length : Int), rfl, hst, hT0, hT1, by omega, by omega, fun H1 st1 k1 => ?_⟩
    obtain ⟨v0, v1⟩ := val_in s0 (show (0 : Int) < (xs.length : Int) by omega)
    have hj : (s0.val xs.length).toNat < xs.length := by omega
    have e : s0.val xs.length = (((s0.val xs.length).toNat : Nat) : Int) := by omega
    generalize hx : xs[(s0.val xs.length).toNat] = x
    have hx' : xs[(s0.val xs.length).toNat]? = some x := by rw [List.getElem?_eq_getElem hj, hx]
    refine ⟨a, xs, _, x, rfl, rfl, SqL.of (k1 a _ nad nag ha), ?_, k _ _ st1 k1 hx'⟩
    rw [e]
    exact atI_nat hx'
end
end My
/-! _law_mixed -/
namespace My
open PySem PySem.Spec PyProof.Rows L2 Evl
/-- an int or a pair of ints -/
def ItemD (H : Hp) (x : V) : Prop := (∃ i, x = .int i) ∨ ∃ p, PairV H x p
theorem ItemD.up {H H' : Hp} {x : V} (e : Ex H H') (h : ItemD H x) : ItemD H' x := h.imp id fun ⟨p, q⟩ => ⟨p, q.up e⟩
theorem PairV.kp {H H' : Hp} {d g : Addr} {x : V} {p : Int × Int} (k : Kp d g H H') (hd : ∀ ys, H d ≠ some (.tup ys)) (hg : ∀ ys, H g ≠ some (.tup ys)) (h : PairV H x p) : PairV H' x p := by
  obtain ⟨t, rfl, ht⟩ := h
  exact ⟨t, rfl, k t _ (fun z => hd _ (z ▸ ht)) (fun z => hg _ (z ▸ ht)) ht⟩
theorem StX.nd {H : Hp} {d g c : Addr} {s : Src} (h : StX H d g c s) : ∀ ys, H d ≠ some (.tup ys) := fun ys z => by
  rw [h.1] at z
  cases z
theorem StX.ng {H : Hp} {d g c : Addr} {s : Src} (h : StX H d g c s) : ∀ ys, H g ≠ some (.tup ys) := fun ys z => by
  rw [h.2.1] at z
  cases z
theorem ItemD.kp {H H' : Hp} {d g c : Addr} {s : Src} {x : V} (st : StX H d g c s) (k : Kp d g H H') (h : ItemD H x) : ItemD H' x := h.imp id fun ⟨p, q⟩ => ⟨p, q.kp k st.nd st.ng⟩
theorem PrL.kp {H H' : Hp} {d g c : Addr} {s : Src} (st : StX H d g c s) (k : Kp d g H H') : ∀ {xs ps}, PrL H xs ps → PrL H' xs ps
  | _, _, .nil => .nil
  | _, _, .cons h r => .cons (h.kp k st.nd st.ng) (PrL.kp st k r)
theorem Kp.of {H H' : Hp} {d g : Addr} (e : Ex H H') : Kp d g H H' := fun b o _ _ h => e b o h
theorem Kp.trans {H H1 H2 : Hp} {d g : Addr} (a : Kp d g H H1) (b : Kp d g H1 H2) : Kp d g H H2 := fun x o h1 h2 h => b x o h1 h2 (a x o h1 h2 h)
theorem StX.up {H H' : Hp} {d g c : Addr} {s : Src} (e : Ex H H') (h : StX H d g c s) : StX H' d g c s := ⟨e _ _ h.1, e _ _ h.2.1, e _ _ h.2.2.1, h.2.2.2⟩
theorem dp_items {K : PySem.W.Frag} {H : Hp} : ∀ {xs : List V}, (∀ x ∈ xs, ItemD H x) → ∃ ds, DpAll K H xs ds ∧ ds.length = xs.length ∧ PyData.canLayAll0 ds = true ∧ PyData.depthAll ds ≤ 1
  | [], _ => ⟨[], .nil, rfl, by simp [PyData.canLayAll0], by simp [PyData.depthAll]⟩
  | x :: r, h => by
    obtain ⟨ds, h1, h2, h3, h4⟩ := dp_items (K := K) (xs := r) fun y hy => h y (List.mem_cons_of_mem _ hy)
    rcases h x List.mem_cons_self with ⟨i, rfl⟩ | ⟨p, t, rfl, ht⟩
    · exact ⟨.int i :: ds, .cons (.int i) h1, congrArg (· + 1) h2, by simp [PyData.canLayAll0, PyData.canLay0, h3], by simp [PyData.depthAll, PyData.depth, h4]⟩
    · exact ⟨.tuple [.int p.1, .int p.2] :: ds, .cons (.tup (SqT.of ht) (.cons (.int _) (.cons (.int _) .nil))) h1, congrArg (· + 1) h2, by simp [PyData.canLayAll0, PyData.canLay0, h3], by simp [PyData.depthAll, PyData.depth]; omega⟩
theorem eqv_nil (ds : List PyData) : PyData.eqv (.list ds) (.list []) = ds.isEmpty := by
  cases ds with
  | nil => simp [PyData.eqv, PyData.eqvAll]
  | cons a r => simp [PyData.eqv, PyData.eqvAll]
/-- xs != [] -/
theorem et_ne {K : PySem.W.Frag} {σ : L2.St} {H : Hp} {i : Nat} {l : Addr} {xs : List V} (hi : σ[i]? = some (some (.ref l))) (hl : H l = some (.lst xs)) (hx : ∀ x ∈ xs, ItemD H x) : EvT (tTest (tOp (rNeD K) (tVar i) (tLst tNil))) σ H (!xs.isEmpty) :=
  et_test (ev_opL (ev_var hi) (el_lst ea_nil (Nat.zero_le _)) fun p H1 hp e1 => rv_val fun H2 e2 Q q => by
    obtain ⟨ds, h1, h2, h3, h4⟩ := dp_items (K := K) (H := H2) (xs := xs) fun x m => (hx x m).up (e1.trans e2)
    have s1 : SeqAt.shaped (.list ds) = true := by
      have h5 : PyData.canLay0 (.list ds) = true := by unfold PyData.canLay0; exact h3
      have h6 : PyData.depth (.list ds) ≤ 2 := by
        show PyData.depthAll ds + 1 ≤ 2
        omega
      unfold SeqAt.shaped
      rw [h5, decide_eq_true (Nat.le_trans h6 (by decide))]
      rfl
    refine ⟨.list ds, .list [], Dp.lst (SqL.of ((e1.trans e2) _ _ hl)) h1, Dp.lst (SqL.of (e2 _ _ hp)) .nil, s1, by decide, ?_⟩
    rw [eqv_nil, show ds.isEmpty = xs.isEmpty by cases ds <;> cases xs <;> simp_all]
    exact q)
theorem perm_erase : ∀ (ys : List V) (j : Nat) (h : j < ys.length), (ys[j] :: ys.eraseIdx j).Perm ys
  | y :: r, 0, _ => .refl _
  | y :: r, j + 1, h => (List.Perm.swap y (r[j]'(Nat.lt_of_succ_lt_succ h)) (r.eraseIdx j)).trans ((perm_erase r j (Nat.lt_of_succ_lt_succ h)).cons y)
structure MxB (mg : Str → Option Value) : Prop where
  list : mg "list" = none
  len : mg "len" = none
theorem fill_cs (s : Src) : s.fill.cs = s.cs := by
  unfold Src.fill
  split
  · split <;> rfl
  · rfl
theorem next_cs (s : Src) (n : Int) : (s.next n).cs = s.cs := fill_cs s
theorem fill_turn (s : Src) : s.turn ≤ s.fill.turn ∧ s.fill.turn ≤ s.turn + 1 := by
  unfold Src.fill
  split
  · split
    · exact ⟨Int.le_refl _, by show s.turn ≤ _; omega⟩
    · exact ⟨by show s.turn ≤ s.turn + 1; omega, Int.le_refl _⟩
  · exact ⟨Int.le_refl _, by omega⟩
theorem next_turn (s : Src) (n : Int) : s.turn ≤ (s.next n).turn ∧ (s.next n).turn ≤ s.turn + 1 := fill_turn s
section
variable {P : Program} {w : World} {K : PySem.W.Frag} {mg : Str → Option Value} {base : Heap}
def spMixed (K : PySem.W.Frag) : Sp := fun vs H Q _ => ∃ (d g c a : Addr) (s : Src) (xs : List V), vs = [.ref d, .ref a] ∧ StX H d g c s ∧ 0 ≤ s.turn ∧ s.turn < 2 ^ 899 ∧ (SqL K H a xs ∨ SqT K H a xs) ∧ (∀ x ∈ xs, ItemD H x) ∧ xs.length ≤ 1000 ∧
  ∀ (H' : Hp) (s' : Src) (p : Addr) (ys : List V), StX H' d g c s' → s'.cs = s.cs → s.turn ≤ s'.turn → s'.turn ≤ s.turn + 1000 → Kp d g H H' → H p = none → p ≠ d → p ≠ g → H' p = some (.lst ys) → ys.Perm xs → Q (.ref p) H'
theorem scMx : FnScope ["state", "several", "left", "found"] ["state", "several"] (defScope s_law_mixed) := ⟨rfl, rfl, rfl, by decide +kernel, rfl, by decide +kernel, by decide +kernel⟩
theorem ok_mixed {f fD fB : Addr} {fd fdD fdB : FuncData} (F : Fun K "_law_mixed" "_law_mixed" s_law_mixed f fd) (B : DrB mg) (M : MxB mg) (FB : Fun K "_law_blended" "_law_blended" sBlended fB fdB) (mgB : mg "_law_blended" = some (.ref fB))
    (FD : Fun K "_law_draw" "_law_draw" sDraw fD fdD) (mgD : mg "_law_draw" = some (.ref fD)) : FnOk P w K mg base CX0 3 f fd ["state", "several"] (spMixed K) := by
  have GD : FnOk P w K mg base CX0 2 fD fdD ["state", "size_here"] spDraw := ok_draw FD B FB mgB
  have bD : Binds K fdD ["state", "size_here"] [] := FD.binds (ps := ["state", "size_here"]) fun _ _ _ _ _ _ us hl => match us, hl with | [_, _], _ => rfl
  refine F.ok scMx (fun vs H Q E h => ?_) (fun cdv A outer s H vs Q E hr h => ?_)
  · obtain ⟨d, g, c, a, s0, xs, rfl, _⟩ := h
    rfl
  · obtain ⟨d, g, c, a, s0, xs, rfl, hst, t0, t1, hS, hI, hl, k⟩ := h
    refine ⟨_, pss_cons (ps_par (i := 2) (j := 3) rfl scMx.nd rfl rfl (by decide) rfl rfl (pa_cons (pe_callTy call_list_of (by rfl) M.list (by decide +kernel) (pa_cons (pv 1) pa_nil)) (pa_cons (pe_lst pa_nil) pa_nil)) (by rfl))
      (pss_cons (ps_while PassesOwn.never (pt_cmpR (op_neD hr.units) (pv 2) (pe_lst pa_nil) (nomark _))
        (pss_one (ps_expr (pe_bm PySem.F.plainAttrs_list PySem.F.slot_list_append PySem.F.type_list_append mt_append (pv 3)
          (pa_cons (pe_bm PySem.F.plainAttrs_list PySem.F.slot_list_pop PySem.F.type_list_pop mt_popAt (pv 2) (pa_cons (pe_call GD hr (by rfl) mgD FD.kp bD .nil pass0 (pa_cons (pv 0) (pa_cons (pe_callB call_len_seq (by rfl) M.len PySem.boot_len (pa_cons (pv 2) pa_nil)) pa_nil))) pa_nil)) pa_nil)))))
      (pss_one (ps_ret (pv 3)))), ?_⟩
    refine ⟨_, rfl, a, xs, rfl, hS, fun l hlN => ?_⟩
    refine ⟨Nat.zero_le _, fun f0 hfN => ⟨_, _, rfl, ?_⟩⟩
    have nlf : l ≠ f0 := fun z => by
      rw [← z, upd_same] at hfN
      cases hfN
    have hf0 : H f0 = none := by
      rw [upd_ne nlf.symm] at hfN
      exact hfN
    have e2 : Ex H (upd (upd H l (.lst xs)) f0 (.lst [])) := (Ex.new hlN).trans (Ex.new hfN)
    have nld : l ≠ d := fun z => by rw [z, hst.1] at hlN; cases hlN
    have nlg : l ≠ g := fun z => by rw [z, hst.2.1] at hlN; cases hlN
    have nlc : l ≠ c := fun z => by rw [z, hst.2.2.1] at hlN; cases hlN
    have nfd : f0 ≠ d := fun z => by rw [z, hst.1] at hf0; cases hf0
    have nfg : f0 ≠ g := fun z => by rw [z, hst.2.1] at hf0; cases hf0
    have nfc : f0 ≠ c := fun z => by rw [z, hst.2.2.1] at hf0; cases hf0
    let Pv : Nat → L2.St → Hp → Prop := fun m σ' H' => ∃ (s' : Src) (ys zs : List V), σ' = [some (.ref d), some (.ref a), some (.ref l), some (.ref f0)] ∧ StX H' d g c s' ∧ s'.cs = s0.cs ∧ s0.turn ≤ s'.turn ∧ s'.turn ≤ s0.turn + zs.length ∧ H' l = some (.lst ys) ∧ H' f0 = some (.lst zs) ∧
      (zs ++ ys).Perm xs ∧ m = ys.length ∧ Kp d g H H' ∧ ∀ x ∈ ys, ItemD H' x
    show tSeq (tWhile _ _) _ _ _ _
    refine s_while (D := { nx := _, rt := _ }) Pv xs.length ⟨s0, xs, [], rfl, hst.up e2, rfl, Int.le_refl _, by show s0.turn ≤ s0.turn + 0; omega, by rw [upd_ne nlf, upd_same], upd_same, List.Perm.refl _, rfl, Kp.of e2, fun x m => (hI x m).up e2⟩ ?_
    rintro m σ' H' ⟨s', ys, zs, rfl, st, hcs, tlo, thi, hl', hf', pm, rfl, kp, it⟩
    have hzs : zs.length + ys.length = xs.length := by
      rw [← pm.length_eq, List.length_append]
    refine ⟨_, et_ne rfl hl' it, fun hb H1 e1 => ?_, fun hb H1 e1 => ?_⟩
    · have hn : 0 < ys.length := by
        cases ys with
        | nil => cases hb
        | cons _ _ => exact Nat.succ_pos _
      refine ⟨fun σ2 H2 => ∃ m', m' < ys.length ∧ Pv m' σ2 H2, fun _ _ h => h, ?_⟩
      refine ⟨_, rfl, Or.inl ⟨rfl, _, SqL.of (e1 _ _ hf')⟩, _, rfl, Or.inl ⟨rfl, _, SqL.of (e1 _ _ hl')⟩, _, rfl, _, rfl, l, ys, rfl, Or.inl (SqL.of (e1 _ _ hl')), d, g, c, s', (ys.length : Int), rfl, st.up e1, by omega, by omega, by omega, by omega, fun H2 st2 k2 => ?_⟩
      obtain ⟨v0, v1⟩ := val_in s' (show (0 : Int) < (ys.length : Int) by omega)
      have hj : (s'.val ys.length).toNat < ys.length := by omega
      have ev : s'.val ys.length = (((s'.val ys.length).toNat : Nat) : Int) := by omega
      generalize (s'.val ys.length).toNat = j at hj ev
      have hl2 := k2 l _ nld nlg (e1 _ _ hl')
      have hf2 := k2 f0 _ nfd nfg (e1 _ _ hf')
      refine ⟨l, ys, s'.val ys.length, j, ys[j], rfl, rfl, hl2, by omega, by omega, ?_, List.getElem?_eq_getElem hj, ?_⟩
      · rw [ev]
        unfold seqIndex?
        simp
        omega
      · refine ⟨f0, zs, ys[j], rfl, rfl, by rw [upd_ne nlf.symm]; exact hf2, small1000 (by omega), ?_⟩
        obtain ⟨n1, n2⟩ := next_turn s' ys.length
        refine ⟨(ys.eraseIdx j).length, by rw [List.length_eraseIdx]; split <;> omega, s'.next ys.length, ys.eraseIdx j, zs ++ [ys[j]], rfl, ?_, by rw [next_cs, hcs], by omega, by rw [List.length_append]; show _ ≤ s0.turn + ((zs.length + 1 : Nat) : Int); omega, ?_, upd_same, ?_, rfl, ?_, ?_⟩
        · refine ⟨?_, ?_, ?_, st2.2.2.2⟩
          · rw [upd_ne nfd.symm, upd_ne nld.symm]; exact st2.1
          · rw [upd_ne nfg.symm, upd_ne nlg.symm]; exact st2.2.1
          · rw [upd_ne nfc.symm, upd_ne nlc.symm]; exact st2.2.2.1
        · rw [upd_ne nlf, upd_same]
        · refine List.Perm.trans ?_ pm
          rw [List.append_assoc]
          refine List.Perm.append_left zs ?_
          exact perm_erase ys j hj
        · intro b o nb ng hb'
          have nbl : b ≠ l := fun z => by rw [z, hlN] at hb'; cases hb'
          have nbf : b ≠ f0 := fun z => by rw [z, hf0] at hb'; cases hb'
          rw [upd_ne nbf, upd_ne nbl]
          exact k2 b o nb ng (e1 _ _ (kp b o nb ng hb'))
        · intro x hx
          have hx' : x ∈ ys := List.mem_of_mem_eraseIdx hx
          have i2 := ((it x hx').up e1).kp (st.up e1) k2
          rcases i2 with ⟨i, rfl⟩ | ⟨p, t, rfl, ht⟩
          · exact .inl ⟨i, rfl⟩
          · refine .inr ⟨p, t, rfl, ?_⟩
            rw [upd_ne (ne_of ht hf2 (by intro q; cases q)), upd_ne (ne_of ht hl2 (by intro q; cases q))]
            exact ht
    · have hy : ys = [] := by
        cases ys with
        | nil => rfl
        | cons _ _ => cases hb
      subst hy
      rw [List.append_nil] at pm
      refine ⟨_, rfl, k H1 s' f0 zs (st.up e1) hcs tlo ?_ (kp.trans (Kp.of e1)) hf0 nfd nfg (e1 _ _ hf') pm⟩
      have := pm.length_eq
      omega
end
end My
/-! lists of new pairs; _law_nt_ties -/
namespace My
open PySem PySem.Spec PyProof.Rows L2 Evl
/-- a new list of pairs -/
def EvP (te : TE) (σ : L2.St) (H : Hp) (ks : List (Int × Int)) : Prop := ∀ H1, Ex H H1 → ∀ Q : VK, (∀ p xs H2, H1 p = none → Ex H1 H2 → H2 p = some (.lst xs) → PrL H2 xs ks → Q (.ref p) H2) → te σ H1 Q
theorem PairV.upd {H : Hp} {x : V} {p : Int × Int} {D : Addr} {o : HO} (hD : ∀ ys, H D ≠ some (.tup ys)) (h : PairV H x p) : PairV (upd H D o) x p := by
  obtain ⟨t, rfl, ht⟩ := h
  refine ⟨t, rfl, ?_⟩
  rw [upd_ne (fun z => hD _ (z ▸ ht))]
  exact ht
theorem PrL.upd {H : Hp} {D : Addr} {o : HO} (hD : ∀ ys, H D ≠ some (.tup ys)) : ∀ {xs ps}, PrL H xs ps → PrL (upd H D o) xs ps
  | _, _, .nil => .nil
  | _, _, .cons h r => .cons (h.upd hD) (PrL.upd hD r)
def givenP (n : Nat) (f : Nat → Bool) (k : Nat → Int × Int) : List (Int × Int) := ((List.range n).filter f).map k
theorem givenP_yes {n : Nat} {f : Nat → Bool} {k : Nat → Int × Int} (h : f n = true) : givenP (n + 1) f k = givenP n f k ++ [k n] := by
  unfold givenP
  rw [List.range_succ, List.filter_append, List.map_append, List.filter_cons, if_pos h]
  rfl
theorem givenP_no {n : Nat} {f : Nat → Bool} {k : Nat → Int × Int} (h : f n = false) : givenP (n + 1) f k = givenP n f k := by
  unfold givenP
  rw [List.range_succ, List.filter_append, List.map_append, List.filter_cons, if_neg (by rw [h]; exact Bool.false_ne_true)]
  simp
theorem givenP_len (n : Nat) (f : Nat → Bool) (k : Nat → Int × Int) : (givenP n f k).length ≤ n := by
  unfold givenP
  rw [List.length_map]
  exact Nat.le_trans (List.length_filter_le ..) (by rw [List.length_range]; exact Nat.le_refl _)
theorem ep_lcW {σ : L2.St} {H : Hp} {wi : TI} {g : TG} {tt : TT} {te : TE} {vs : List Nat} {n : Nat} {Y : Nat → Hp → V → Hp → Prop} (f : Nat → Bool) (k : Nat → Int × Int) (hn : n ≤ 40000)
    (hw : ∀ H1, Ex H H1 → ∀ R : It → Hp → Prop, (∀ J H2, Ex H1 H2 → Walk J n (fun H' => Ex H2 H') Y → R J H2) → wi σ H1 R)
    (hs : ∀ i x H1 H2, i < n → Ex H H1 → Y i H1 x H2 → Ex H1 H2 ∧ ∃ σ2, (∀ R : L2.St → Hp → Prop, R σ2 H2 → g x (wipe σ vs) H2 R) ∧ wipe σ2 vs = wipe σ vs ∧ EvT tt σ2 H (f i) ∧ (f i = true → EvU te σ2 H [.int (k i).1, .int (k i).2])) :
    EvP (tLc wi g tt te vs) σ H (givenP n f k) := fun H0 e Q q => hw H0 e _ fun J H2 e2 w Dl hD =>
  lc_it w (fun i H' => H2 Dl = none ∧ Ex H2 H' ∧ ∃ xs, H' Dl = some (.lst xs) ∧ PrL H' xs (givenP i f k)) ⟨hD, Ex.new hD, [], upd_same, .nil⟩ (fun i H' _ p => p.2.1) (fun i x H3 H4 hi p y => by
    obtain ⟨p1, p2, xs, p3, p4⟩ := p
    obtain ⟨e4, σ2, hg, hwp, ht, he⟩ := hs i x H3 H4 hi ((e.trans e2).trans p2) y
    have eb := ((e.trans e2).trans p2).trans e4
    refine hg _ ⟨hwp, ht H4 eb _ fun H5 e5 => ?_⟩
    cases hf : f i with
    | false =>
      rw [if_neg Bool.false_ne_true]
      refine ⟨p1, (p2.trans e4).trans e5, xs, e5 _ _ (e4 _ _ p3), ?_⟩
      rw [givenP_no hf]
      exact (p4.up e4).up e5
    | true =>
      rw [if_pos rfl]
      refine he hf H5 (eb.trans e5) _ fun t H6 ht6 e6 hp6 => ?_
      have hx6 : H6 Dl = some (.lst xs) := e6 _ _ (e5 _ _ (e4 _ _ p3))
      have hl := p4.len
      have hg2 := givenP_len i f k
      refine ⟨xs, hx6, sz_lt (by omega), p1, Ex.mut (((p2.trans e4).trans e5).trans e6) p1, xs ++ [.ref t], upd_same, ?_⟩
      rw [givenP_yes hf]
      exact PrL.upd (fun ys z => by rw [hx6] at z; cases z) ((((p4.up e4).up e5).up e6).app (.cons ⟨t, rfl, hp6⟩ .nil))) (fun H' ⟨p1, p2, xs, p3, p4⟩ => q Dl xs H' (fresh_back e2 p1) (e2.trans p2) p3 p4)
theorem ep_cat {σ : L2.St} {H : Hp} {ta tb : TE} {l : Addr} {xs : List V} {ps qs : List (Int × Int)} (ha : Ev ta σ H (.ref l)) (hl : H l = some (.lst xs)) (hp : PrL H xs ps) (hb : EvP tb σ H qs) (hz : ps.length + qs.length ≤ 100000) : EvP (tOp rCat ta tb) σ H (ps ++ qs) := fun H1 e Q q =>
  ha H1 e _ fun H2 e2 => hb H2 (e.trans e2) _ fun p ys H3 hp3 e3 h3 k3 => ⟨l, p, xs, ys, rfl, rfl, e3 _ _ (e2 _ _ (e _ _ hl)), h3, by rw [hp.len, k3.len]; exact sz_of hz, fun r hr =>
    q r (xs ++ ys) _ (fresh_back (e2.trans e3) hr) ((e2.trans e3).trans (Ex.new hr)) upd_same (((hp.up ((e.trans e2).trans e3)).app k3).up (Ex.new hr))⟩
theorem q_asgP {σ : L2.St} {H : Hp} {te : TE} {tz : TS} {D : Ends} {i : Nat} {ks : List (Int × Int)} (h : EvP te σ H ks) (k : ∀ p xs H1, H p = none → Ex H H1 → H1 p = some (.lst xs) → PrL H1 xs ks → tz D (σ.set i (some (.ref p))) H1) : tSeq (tAsg te (gName i)) tz D σ H :=
  h H (Ex.refl H) _ fun p xs H1 hp e h1 h2 => k p xs H1 hp e h1 h2
theorem s_asgP {σ : L2.St} {H : Hp} {te : TE} {D : Ends} {i : Nat} {ks : List (Int × Int)} (h : EvP te σ H ks) (k : ∀ p xs H1, H p = none → Ex H H1 → H1 p = some (.lst xs) → PrL H1 xs ks → D.nx (σ.set i (some (.ref p))) H1) : tAsg te (gName i) D σ H :=
  h H (Ex.refl H) _ fun p xs H1 hp e h1 h2 => k p xs H1 hp e h1 h2
/-! ### all pairs of points -/
def fromP (m one : Nat) : List (Int × Int) := givenP (m - one - 1) (fun _ => true) fun i => ((one : Int), (one : Int) + 1 + (i : Int))
def allP (m : Nat) : Nat → List (Int × Int)
  | 0 => []
  | n + 1 => allP m n ++ fromP m n
theorem mem_fromP {m one : Nat} {p : Int × Int} : p ∈ fromP m one ↔ p.1 = one ∧ (one : Int) < p.2 ∧ p.2 < m := by
  unfold fromP givenP
  rw [List.filter_eq_self.mpr fun _ _ => rfl, List.mem_map]
  constructor
  · rintro ⟨i, hi, rfl⟩
    have := List.mem_range.mp hi
    refine ⟨rfl, ?_, ?_⟩
    · show (one : Int) < (one : Int) + 1 + (i : Int)
      omega
    · show (one : Int) + 1 + (i : Int) < m
      omega
  · rintro ⟨h1, h2, h3⟩
    refine ⟨(p.2 - one - 1).toNat, List.mem_range.mpr (by omega), ?_⟩
    obtain ⟨a, b⟩ := p
    have h1 : a = (one : Int) := h1
    have h2 : (one : Int) < b := h2
    have e : (one : Int) + 1 + ((b - one - 1).toNat : Int) = b := by omega
    show ((one : Int), (one : Int) + 1 + ((b - one - 1).toNat : Int)) = (a, b)
    rw [e, h1]
theorem nodup_fromP (m one : Nat) : (fromP m one).Nodup := by
  unfold fromP givenP
  rw [List.filter_eq_self.mpr fun _ _ => rfl]
  refine List.pairwise_map.mpr (List.Pairwise.imp (fun {a b} h e => h ?_) List.nodup_range)
  have e2 : (one : Int) + 1 + (a : Int) = (one : Int) + 1 + (b : Int) := congrArg Prod.snd e
  omega
theorem mem_allP {m : Nat} {p : Int × Int} : ∀ {n : Nat}, p ∈ allP m n ↔ 0 ≤ p.1 ∧ p.1 < n ∧ p.1 < p.2 ∧ p.2 < m
  | 0 => by
    constructor
    · intro h
      cases h
    · rintro ⟨h1, h2, _⟩
      have h2 : p.1 < ((0 : Nat) : Int) := h2
      omega
  | n + 1 => by
    show p ∈ allP m n ++ fromP m n ↔ _
    rw [List.mem_append, mem_allP, mem_fromP]
    omega
theorem nodup_allP (m : Nat) : ∀ n, (allP m n).Nodup
  | 0 => List.nodup_nil
  | n + 1 => by
    show (allP m n ++ fromP m n).Nodup
    refine List.nodup_append.mpr ⟨nodup_allP m n, nodup_fromP m n, fun a ha b hb e => ?_⟩
    subst e
    have h1 := (mem_allP.mp ha).2.1
    have h2 := (mem_fromP.mp hb).1
    omega
theorem len_allP (m : Nat) : ∀ n, (allP m n).length ≤ n * m
  | 0 => by simp [allP]
  | n + 1 => by
    show (allP m n ++ fromP m n).length ≤ _
    rw [List.length_append, Nat.succ_mul]
    have h1 := len_allP m n
    have h2 := givenP_len (m - n - 1) (fun _ => true) fun i => ((n : Int), (n : Int) + 1 + (i : Int))
    unfold fromP
    omega
/-! ### sorted pairs -/
theorem asc_of : ∀ {ks : List (Int × Int)}, ks.Pairwise (fun p q => ltB p q = true) → asc ks = true
  | [], _ => rfl
  | [_], _ => rfl
  | p :: q :: r, h => by
    obtain ⟨h1, h2⟩ := List.pairwise_cons.mp h
    show (ltB p q && asc (q :: r)) = true
    rw [h1 q List.mem_cons_self, asc_of h2]
    rfl
theorem ltB_iff {p q : Int × Int} : ltB p q = true ↔ p.1 < q.1 ∨ (p.1 = q.1 ∧ p.2 < q.2) := SrtO.lexB_iff
theorem ltB_no {p q : Int × Int} : ltB p q = false ↔ ¬ (p.1 < q.1 ∨ (p.1 = q.1 ∧ p.2 < q.2)) := SrtO.lexB_no
theorem asc_sorted : ∀ {ks : List (Int × Int)}, ks.Pairwise (fun p q => ltB q p = false) → ks.Nodup → ks.Pairwise (fun p q => ltB p q = true) := by
  intro ks h1 h2
  refine List.Pairwise.imp (fun {p q} h => ?_) (h1.and h2)
  obtain ⟨a, b⟩ := h
  have a' := ltB_no.mp a
  refine ltB_iff.mpr ?_
  by_cases e1 : p.1 < q.1
  · exact .inl e1
  · refine .inr ⟨by omega, ?_⟩
    have e2 : p.1 = q.1 := by omega
    by_cases e3 : p.2 < q.2
    · exact e3
    · refine absurd ?_ b
      obtain ⟨x, y⟩ := p
      obtain ⟨z, w⟩ := q
      have e2 : x = z := e2
      have e3 : ¬ y < w := e3
      have a' : ¬ (z < x ∨ (z = x ∧ w < y)) := a'
      have e4 : y = w := by omega
      rw [e2, e4]
structure TyB (mg : Str → Option Value) : Prop where
  rng : mg "range" = none
  tup : mg "tuple" = none
  srt : mg "sorted" = none
theorem few_allP : ∀ m ≤ 24, (allP m m).length ≤ 276 := by decide +kernel
section
variable {P : Program} {w : World} {K : PySem.W.Frag} {mg : Str → Option Value} {base : Heap}
def spTies (K : PySem.W.Frag) : Sp := fun vs H Q _ => ∃ (d g c : Addr) (s : Src) (m most : Int), vs = [.ref d, .int m, .int most] ∧ StX H d g c s ∧ 0 ≤ s.turn ∧ s.turn < 2 ^ 898 ∧ 1 ≤ m ∧ m ≤ 24 ∧ 0 ≤ most ∧ most < 100000 ∧
  ∀ (H' : Hp) (s' : Src) (a : Addr) (xs : List V) (ks : List (Int × Int)), StX H' d g c s' → s'.cs = s.cs → s.turn ≤ s'.turn → s'.turn ≤ s.turn + 2000 → Kp d g H H' → H a = none → H' a = some (.tup xs) → PrL H' xs ks → OkNet m ks → (ks.length : Int) ≤ most → Q (.ref a) H'
theorem scTy : FnScope ["state", "many", "most", "some", "one", "other"] ["state", "many", "most"] (defScope s_law_nt_ties) := ⟨rfl, rfl, rfl, by decide +kernel, rfl, by decide +kernel, by decide +kernel⟩
theorem ok_ties {f fM fD fB : Addr} {fd fdM fdD fdB : FuncData} (F : Fun K "_law_nt_ties" "_law_nt_ties" s_law_nt_ties f fd) (B : DrB mg) (M : MxB mg) (T : TyB mg) (FB : Fun K "_law_blended" "_law_blended" sBlended fB fdB) (mgB : mg "_law_blended" = some (.ref fB))
    (FD : Fun K "_law_draw" "_law_draw" sDraw fD fdD) (mgD : mg "_law_draw" = some (.ref fD)) (FM : Fun K "_law_mixed" "_law_mixed" s_law_mixed fM fdM) (mgM : mg "_law_mixed" = some (.ref fM)) : FnOk P w K mg base CX0 4 f fd ["state", "many", "most"] (spTies K) := by
  have GD : FnOk P w K mg base CX0 2 fD fdD ["state", "size_here"] spDraw := ok_draw FD B FB mgB
  have bD : Binds K fdD ["state", "size_here"] [] := FD.binds (ps := ["state", "size_here"]) fun _ _ _ _ _ _ us hl => match us, hl with | [_, _], _ => rfl
  have GM : FnOk P w K mg base CX0 3 fM fdM ["state", "several"] (spMixed K) := ok_mixed FM B M FB mgB FD mgD
  have bM : Binds K fdM ["state", "several"] [] := FM.binds (ps := ["state", "several"]) fun _ _ _ _ _ _ us hl => match us, hl with | [_, _], _ => rfl
  refine F.ok scTy (fun vs H Q E h => ?_) (fun cdv A outer s H vs Q E hr h => ?_)
  · obtain ⟨d, g, c, s0, m, most, rfl, _⟩ := h
    rfl
  · obtain ⟨d, g, c, s0, m, most, rfl, hst, t0, t1, m1, m2, o0, o1, k⟩ := h
    have hr2 := hr.mono (show 2 ≤ 3 by decide)
    refine ⟨_, pss_cons (ps_set (i := 3) scTy.nd rfl (Or.inl rfl) (pe_lst pa_nil))
      (pss_cons (ps_for PassesOwn.never rfl (pi_range1 (by rfl) T.rng (pa_cons (pv 1) pa_nil)) (pg_name (i := 4) scTy.nd rfl (Or.inr rfl))
        (pss_one (ps_set (i := 3) scTy.nd rfl (Or.inl rfl) (pe_op op_cat (pv 3) (pe_lc (own := [("other", 5)]) (g := gName 5) rfl scTy.nd (pi_range2 (by rfl) T.rng (pa_cons (pe_op op_add (pv 4) pe_int) (pa_cons (pv 1) pa_nil))) (blkOk_by (N := ["state", "many", "most", "some", "one", "other"]) (sc := defScope s_law_nt_ties) (by decide +kernel))
          (fun _ _ _ _ _ => pg_name (i := 5) scTy.nd rfl (Or.inl rfl)) (fun _ _ _ _ _ => pts_nil) (fun _ _ _ _ _ => pe_tup (pa_cons (pe_var (i := 4) rfl (Or.inr (Or.inl (by rfl)))) (pa_cons (pv 5) pa_nil))))))))
      (pss_one (ps_ret (pe_callTy call_tuple_of (by rfl) T.tup boot_tupT (pa_cons (pe_callB cr_sortedPO (by rfl) T.srt (by decide +kernel) (pa_cons (pe_slice sl_list (pe_call GM hr (by rfl) mgM FM.kp bM .nil pass0 (pa_cons (pv 0) (pa_cons (pv 3) pa_nil)))
        po_none (po_some (pe_call GD hr2 (by rfl) mgD FD.kp bD .nil pass0 (pa_cons (pv 0) (pa_cons (pe_op op_add (pv 2) pe_int) pa_nil))))) pa_nil)) pa_nil))))), ?_⟩
    obtain ⟨M0, hM0⟩ : ∃ M0 : Nat, m = (M0 : Int) := ⟨m.toNat, by omega⟩
    subst hM0
    refine q_asgP (ks := []) (fun H1 _ Q q => ⟨Nat.zero_le _, fun p hp => q p [] _ hp (Ex.new hp) upd_same .nil⟩) fun l0 xs0 H1 _ e1 hl0 hk0 => ?_
    refine q_forR1 (ea_cons (ev_var rfl) ea_nil) (by omega) (fun i σ' H' => ∃ (l : Addr) (xs : List V) (v4 v5 : Option V), σ' = [some (.ref d), some (.int (M0 : Int)), some (.int most), some (.ref l), v4, v5] ∧ Ex H H' ∧ H' l = some (.lst xs) ∧ PrL H' xs (allP M0 i))
      (fun H2 e2 => ⟨l0, xs0, none, none, rfl, e1.trans e2, e2 _ _ hl0, hk0.up e2⟩) ?_ ?_
    · rintro i σ' H2 hi ⟨l, xs, v4, v5, rfl, e2, hl, hk⟩
      have hlen := len_allP M0 i
      have hi' : i < 24 := by omega
      have hfew : i * M0 ≤ 24 * 24 := Nat.mul_le_mul (by omega) (by omega)
      have hfl := givenP_len (M0 - i - 1) (fun _ => true) fun t => ((i : Int), (i : Int) + 1 + (t : Int))
      refine s_asgP (ks := allP M0 (i + 1)) (ep_cat (ev_var rfl) hl hk (qs := fromP M0 i) (ep_lcW (n := M0 - i - 1) (Y := YFn fun t => .int ((i : Int) + 1 + (t : Int))) _ _ (by omega) (fun H3 e3 R hR => ?_) (fun t x H3 H4 ht e3 y => ?_)) (by unfold fromP; omega)) fun p ys H3 _ e3 hp hk3 => ⟨p, ys, _, _, rfl, e2.trans e3, hp, hk3⟩
      · refine ⟨_, rfl, _, _, rfl, rfl, _, rfl, (i : Int) + 1, (M0 : Int), rfl, ⟨by omega, by omega, by omega, by omega⟩, ?_⟩
        rw [show ((M0 : Int) - ((i : Int) + 1)).toNat = M0 - i - 1 by omega]
        exact hR _ H3 (Ex.refl _) (Walk.mono walk_range (fun _ _ => trivial) fun _ _ _ _ _ _ y => y)
      · obtain ⟨rfl, rfl⟩ := y
        exact ⟨Ex.refl _, _, fun R hR => hR, rfl, fun H5 _ Q q => q H5 (Ex.refl _), fun _ => eu_tup (ea_cons (ev_var rfl) (ea_cons (ev_var rfl) ea_nil)) (by show 2 ≤ 100000; decide)⟩
    · rintro σ' H2 ⟨l, xs, v4, v5, rfl, e2, hl, hk⟩
      rw [show ((M0 : Int)).toNat = M0 from rfl] at hk
      have hlen := few_allP M0 (by omega)
      have hxl := hk.len
      have st2 := hst.up e2
      refine ⟨_, rfl, _, rfl, d, g, c, l, s0, xs, rfl, st2, t0, by omega, Or.inl (SqL.of hl), fun x hx => ?_, by omega, fun H3 s3 p ys st3 hcs3 tlo thi kp3 hpN hpd hpg hp perm => ?_⟩
      · obtain ⟨q, _, hq⟩ := hk.mem x hx
        exact .inr ⟨q, hq⟩
      refine ⟨_, rfl, _, rfl, _, _, rfl, rfl, d, g, c, s3, most + 1, rfl, st3, by omega, by omega, by omega, by omega, fun H4 st4 k4 => ⟨_, rfl, ?_⟩⟩
      obtain ⟨v0, v1⟩ := val_in s3 (show 0 < most + 1 by omega)
      obtain ⟨j, hj⟩ : ∃ j : Nat, s3.val (most + 1) = (j : Int) := ⟨(s3.val (most + 1)).toNat, by omega⟩
      have hp4 := k4 p _ hpd hpg hp
      have hk3 : PrL H3 xs (allP M0 M0) := PrL.kp st2 kp3 hk
      have hk4 : PrL H4 xs (allP M0 M0) := PrL.kp st3 k4 hk3
      refine ⟨p, ys, rfl, SqL.of hp4, fun q hq => ?_⟩
      rw [hj, cut_to]
      have e5 : Ex H4 (upd H4 q (.lst (ys.take j))) := Ex.new hq
      have hk5 := hk4.up e5
      have q5 : upd H4 q (.lst (ys.take j)) q = some (.lst (ys.take j)) := upd_same
      generalize upd H4 q (.lst (ys.take j)) = H5 at e5 hk5 q5 ⊢
      have py : ∀ y ∈ ys, ∃ r, PairV H5 y r := fun y hy => by
        obtain ⟨r, _, hr⟩ := hk5.mem y (perm.mem_iff.mp hy)
        exact ⟨r, hr⟩
      have pt : ∀ y ∈ ys.take j, ∃ r, PairV H5 y r := fun y hy => py y (List.mem_of_mem_take hy)
      refine ⟨q, ys.take j, prOf H5, rfl, SqL.of q5, fun x hx => ?_, fun zs r hs hb hr => ?_⟩
      · obtain ⟨r, t, rfl, ht⟩ := pt x hx
        exact ⟨t, rfl, by rw [prOf_eq ⟨t, rfl, ht⟩]; exact ht⟩
      refine ⟨r, zs, rfl, .inl ⟨SqL.of upd_same, fun a ha => ?_⟩⟩
      have e6 : Ex H5 (upd H5 r (.lst zs)) := Ex.new hr
      have e7 : Ex (upd H5 r (.lst zs)) (upd (upd H5 r (.lst zs)) a (.tup zs)) := Ex.new ha
      have pz : ∀ y ∈ zs, ∃ r, PairV H5 y r := fun y hy => pt y (hb.perm.mem_iff.mp hy)
      have hz := PrL.of pz
      have ky := hk5.map
      have pm2 : (ys.map (prOf H5)).Perm (allP M0 M0) := by
        rw [← ky]
        exact perm.map _
      have pm3 : (zs.map (prOf H5)).Perm ((ys.map (prOf H5)).take j) := by
        rw [← List.map_take]
        exact hb.perm.map _
      have hin : ∀ p ∈ zs.map (prOf H5), p ∈ allP M0 M0 := fun p hp => pm2.mem_iff.mp (List.mem_of_mem_take (pm3.mem_iff.mp hp))
      have nd : (zs.map (prOf H5)).Nodup := pm3.nodup_iff.mpr ((List.take_sublist j _).nodup (pm2.nodup_iff.mpr (nodup_allP M0 M0)))
      have hlz : (zs.map (prOf H5)).length ≤ j ∧ (zs.map (prOf H5)).length ≤ 276 := by
        rw [pm3.length_eq, List.length_take, pm2.length_eq]
        omega
      have kpa : Kp d g H (upd (upd H5 r (.lst zs)) a (.tup zs)) := ((((Kp.of e2).trans kp3).trans k4).trans (Kp.of e5)).trans (Kp.of (e6.trans e7))
      obtain ⟨n1, n2⟩ := next_turn s3 (most + 1)
      have aN : H a = none := by
        cases z : H a with
        | none => rfl
        | some o =>
          by_cases z1 : a = d
          · have z2 := (e6.trans (Ex.refl _)) d _ (e5 _ _ st4.1)
            rw [← z1, ha] at z2
            cases z2
          · by_cases z3 : a = g
            · have z2 := (e6.trans (Ex.refl _)) g _ (e5 _ _ st4.2.1)
              rw [← z3, ha] at z2
              cases z2
            · have z2 := e6 a _ (e5 _ _ (k4 a _ z1 z3 (kp3 a _ z1 z3 (e2 a _ z))))
              rw [ha] at z2
              cases z2
      refine k _ (s3.next (most + 1)) a zs (zs.map (prOf H5)) ((st4.up e5).up (e6.trans e7)) (by rw [next_cs, hcs3]) (by omega) (by omega) kpa aN upd_same (hz.up (e6.trans e7)) ⟨by omega, by omega, fun p hp => ?_, asc_of (asc_sorted (List.pairwise_map.mpr hs) nd), by omega⟩ (by omega)
      obtain ⟨h1, h2, h3, h4⟩ := mem_allP.mp (hin p hp)
      exact ⟨h1, h3, h4⟩
end
end My
/-! errors: raised by need_net, caught by _law_caught, held -/
namespace My
open PySem PySem.Spec PyProof.Rows L2 Evl Kpt LamX
/-- an own exception class without an __init__ of its own, at C -/
structure ExF (K : PySem.W.Frag) (mg : Str → Option Value) (x : Str) (C : Addr) : Prop where
  g : mg x = some (.ref C)
  ex : PySem.W.excIn K C He.veBase "ValueError.__new__" = true
  kp : PySem.W.keepIn K (.ref C) = true
  sb : PySem.W.subIn K (.ref C) (.type "BaseException") = some true
  ty : PySem.W.typeIn K (.ref C) = some (.type "type")
theorem ps_raiseP {X : Cx} {W : WX} {x m : Str} {C : Addr} {j : Nat} {p p2 pos pos' : Pos} (F : ExF X.K X.mg x C) (hc : X.calm = true) (tk : Takes X W) (hg : Gl X x) (hdb : (x == ("__debug__" : Str)) = false := by decide) :
    PS X (.Raise (some (.Call (.Name x p) [.Constant (.str m) j p2] [] pos)) none pos') (fun _ σ H => W (.ref C) none σ H) :=
  ps_raise hc tk (pmk_own PySem.F.excBase_ValueError F.ex F.g F.kp (raises_own F.sb F.ty) hg hdb)
/-- what a def of this text lets out is told by its wish E alone -/
abbrev WxE (E : XK) : WX := fun cls d _ H => E cls d H
/-! ### isinstance of a held error -/
def rIsK (K : PySem.W.Frag) : List V → Hp → VK → Prop := fun xs H Q => ∃ (a C : Addr) (c : V) (cv : Value) (b : Bool), xs = [.ref a, c] ∧ H a = some (ExK (.ref C) none a) ∧ ExcC K C ∧ ClsV c cv ∧ PySem.W.kitOne K (.ref C) cv = some b ∧ Q (.bl b) H
theorem call_isK {X : Cx} : CallR X (.builtin "isinstance") (rIsK X.K) := by
  intro pins s σ H xs us Q I r h
  obtain ⟨a, C, c, cv, b, rfl, ea, T, k, e, q⟩ := h
  obtain ⟨u1, u2, rfl, r1, r2⟩ := vals2 r
  have e2 := k.eq r2
  subst e2
  obtain rfl : u1 = Value.ref a := r1
  obtain ⟨oe, vs, ho, hz, hd⟩ := (show ObjOk X.prog X.w H s.heap a (ExK (.ref C) none a) from I.hok a _ ea).1
  have J : PySem.W.InstAt s.heap a oe C none := ⟨ho, hz.1, by unfold PySem.W.notCls; rw [hd] <;> rfl, by rw [hz.2]; trivial⟩
  exact PySem.W.kia_one (PySem.W.handS_kitx_exc T.hg T.hk T.hs T.hd T.ha T.hn T.ht T.hm) I.kIn J e (fun z => nomatch z) fun tk => ⟨.bl b, H, I.tok tk, rfl, q⟩
/-! ### need_net -/
section
variable {P : Program} {w : World} {K : PySem.W.Frag} {mg : Str → Option Value} {base : Heap}
/-- x is no instance of the class at C -/
def NoInst (K : PySem.W.Frag) (C : Addr) (H : Hp) (x : V) : Prop := ∃ t, TyX K H x t ∧ PySem.W.kitOne K t (.ref C) = some false
/-- what isinstance asks of the class itself -/
structure InsF (K : PySem.W.Frag) (C : Addr) : Prop where
  ha : PySem.W.findIn K (.ref C) "__class__" = some (some (.builtin "object.__class__"))
  hn : PySem.W.specialIn K (.builtin "object.__class__") "__get__" = some (some (.builtin "getset_descriptor.__get__"))
  ht : PySem.W.takesIn K (.builtin "object.__class__") = some true
  hm : PySem.W.mroIn K C (.type "object") = some true
theorem ty_net {C : Addr} {H : Hp} {x : V} {m : Int} {ks : List (Int × Int)} (cl : Cls K C) (I : InsF K C) (h : NetV K C H x m ks) : TyX K H x (.ref C) := by
  obtain ⟨s, dx, a, xs, rfl, h2, _⟩ := h
  exact .base (.ins h2 cl I.ha I.hn I.ht I.hm)
theorem kit_self {C : Addr} : PySem.W.kitOne K (.ref C) (.ref C) = some true := by
  unfold PySem.W.kitOne
  rw [if_pos (beq_self_eq_true _)]
def spNeed (K : PySem.W.Frag) (C CE : Addr) : Sp := fun vs H Q E => ∃ x, vs = [x] ∧ ((∃ m ks, NetV K C H x m ks ∧ RetV .non H Q) ∨ ((∀ H', Ex H H' → NoInst K C H' x) ∧ ∀ H', Ex H H' → E (.ref CE) none H'))
theorem scNe : FnScope ["net"] ["net"] (defScope s_need_net) := ⟨rfl, rfl, rfl, by decide +kernel, rfl, by decide +kernel, by decide +kernel⟩
theorem ok_need {f C fI CE : Addr} {fd : FuncData} (F : Fun K "need_net" "need_net" s_need_net f fd) (T : NtF K mg C fI) (I : InsF K C) (X : ExF K mg "BadNet" CE) (gi : mg "isinstance" = none) : FnOk P w K mg base (L2.CX P w) 1 f fd ["net"] (spNeed K C CE) := by
  refine F.okX scNe (fun vs H Q E h => ?_) (fun cdv A outer s H vs Q E hr h => ?_)
  · obtain ⟨x, rfl, _⟩ := h
    rfl
  · obtain ⟨x, rfl, h⟩ := h
    refine ⟨_, pss_one (ps_if (pt_not (pt_val (pe_callB call_isi (by rfl) gi boot_isi (pa_cons (pv 0) (pa_cons (pe_glob (v := .ref C) (by rfl) T.g rfl) pa_nil))))) (pss_one (ps_raiseP (W := WxE E) X rfl (takes_of rfl rfl rfl rfl) (by rfl))) pss_nil), ?_⟩
    rcases h with ⟨m, ks, hx, k⟩ | ⟨hx, k⟩
    · refine s_when (b := false) (et_not (et_B (ev_isi (ev_var rfl) (.own _) (fun _ e => ty_net T.cl I (hx.up e)) kit_self))) (fun z => by cases z) (fun _ H1 e1 => k.go e1)
    · have hev : Ev (tCB (rIsi K) (tCons (tVar 0) (tCons (tC (.ref C)) tNil))) [some x] H (.bl false) := fun H1 e Q q => ⟨_, rfl, by
        obtain ⟨t, h1, h2⟩ := hx H1 e
        exact ⟨x, _, t, _, false, rfl, .own _, h1, h2, q H1 (Ex.refl _)⟩⟩
      exact s_when (b := true) (et_not (et_B hev)) (fun _ H1 e1 => k H1 e1) (fun z => by cases z)
end
/-! ### _law_caught -/
def TKeep (K : PySem.W.Frag) (DE : Addr) : (XK → Hp → VK → Prop) → Hp → VK → Prop := fun tl H Q =>
  tl (fun cls d H' => PySem.W.exmOne K cls (.ref DE) = some true ∧ ∀ a, H' a = none → Q (.ref a) (upd H' a (ExK cls d a))) H (fun _ H' => ∃ v, (some (some V.non) : Option (Option V)) = some (some v) ∧ Q v H')
theorem scCa : FnScope ["work", "caught", "error"] ["work"] (defScope s_law_caught) := ⟨rfl, rfl, rfl, by decide +kernel, rfl, by decide +kernel, by decide +kernel⟩
theorem len3 {σ : L2.St} (h : σ.length = 3) : ∃ x y z, σ = [x, y, z] := by
  match σ, h with
  | [x, y, z], _ => exact ⟨x, y, z, rfl⟩
theorem caught_gives {X : Cx} {q : Str} {g DE : Addr} {cdg : Value} (hme : X.mg "DrawError" = some (.ref DE)) :
    GivesTo X ["work", "caught", "error"] "_law_caught" (defScope s_law_caught) g cdg (defBody s_law_caught) "work" q (TKeep X.K DE) := by
  intro f c' s H Q tl act hc h
  refine ⟨_, pss_cons (ps_set (i := 1) scCa.nd rfl (Or.inl rfl) pe_non) (pss_cons (ps_try_keep (X := (cxOf C8.CX0 X.prog X.w X.K X.mg X.base ["work", "caught", "error"] "_law_caught" (defScope s_law_caught) g cdg X.A X.stack s H C8.E0).nox) (c := .ref DE) (i := 2)
      (tb := fun W D σ H => ∃ Ech : XK, (∀ cls d σ' H', Ech cls d H' → W cls d σ' H') ∧ σ[0]? = some (some (.ref f)) ∧ H c' = some (CodeO c' q) ∧ tl Ech H fun _ H' => D.nx σ H')
      rfl rfl rfl scCa.nd rfl rfl ⟨by rfl, by decide, .inl hme⟩ LamX.takes0 (fun W pn xe tk _ => ?_) (fun a oe cls d pn _ _ => pss_one (ps_set (i := 1) scCa.nd rfl (Or.inl rfl) (pv 2)))) (pss_one (ps_ret (pv 1)))), ?_⟩
  · refine ⟨fun pins s' σ H' D I h' => ?_⟩
    obtain ⟨Ech, hW, h1, h2, h3⟩ := h'
    exact (pss_one (ps_expr (act W pn xe Ech _ _ tk hW))).run pins s' σ H' D I ⟨h1, h2, h3⟩
  · refine ⟨_, fun cls d σ' H' hE => ?_, rfl, hc, h⟩
    obtain ⟨e1, e2⟩ := hE
    refine ⟨true, e1, fun _ hl a ha => ?_, fun z => by cases z⟩
    obtain ⟨x, y, z, rfl⟩ := len3 hl
    exact ⟨_, rfl, _, rfl, e2 a ha⟩
end My
/-! places: turns, between, cross -/
namespace My
open PySem PySem.Spec PyProof.Rows L2 Evl
abbrev Pt : Type := Int × Int
/-- a place within reach -/
def Sm (p : Pt) : Prop := -1000000000 ≤ p.1 ∧ p.1 ≤ 1000000000 ∧ -1000000000 ≤ p.2 ∧ p.2 ≤ 1000000000
def turnZ (a b c : Pt) : Int := (b.1 - a.1) * (c.2 - a.2) - (b.2 - a.2) * (c.1 - a.1)
def sideZ (a b c : Pt) : Int := (b.1 - a.1) * (c.2 - a.2) - (c.1 - a.1) * (b.2 - a.2)
section
variable {K : PySem.W.Frag} {σ : L2.St} {H : Hp} {i : Nat} {x : V} {p : Pt}
theorem ev_p0 (h : σ[i]? = some (some x)) (hx : PairV H x p) : Ev (tOp (rIxT K) (tVar i) (tC (.int 0))) σ H (.int p.1) := by
  obtain ⟨t, rfl, ht⟩ := hx
  exact ev_op (ev_var h) ev_c (rv_ixT (SqT.of ht) rfl)
theorem ev_p1 (h : σ[i]? = some (some x)) (hx : PairV H x p) : Ev (tOp (rIxT K) (tVar i) (tC (.int 1))) σ H (.int p.2) := by
  obtain ⟨t, rfl, ht⟩ := hx
  exact ev_op (ev_var h) ev_c (rv_ixT (SqT.of ht) rfl)
theorem rv_mul {a b : Int} (h1 : -(2 ^ 64) < a) (h2 : a < 2 ^ 64) : RV (rI CMul fun i j => .int (i * j)) (.int a) (.int b) H (.int (a * b)) := rv_I (Or.inl ⟨h1, h2⟩)
end
section
variable {P : Program} {w : World} {K : PySem.W.Frag} {mg : Str → Option Value} {base : Heap}
def spTri (f : Pt → Pt → Pt → V) : Sp := fun vs H Q _ => ∃ (x y z : V) (a b c : Pt), vs = [x, y, z] ∧ PairV H x a ∧ PairV H y b ∧ PairV H z c ∧ Sm a ∧ Sm b ∧ Sm c ∧ RetV (f a b c) H Q
theorem sp_tri {f : Pt → Pt → Pt → V} {H : Hp} {x y z : V} {a b c : Pt} (h1 : PairV H x a) (h2 : PairV H y b) (h3 : PairV H z c) (s1 : Sm a) (s2 : Sm b) (s3 : Sm c) : SpV (spTri f) [x, y, z] H (f a b c) :=
  fun H1 e Q q E => ⟨x, y, z, a, b, c, rfl, h1.up e, h2.up e, h3.up e, s1, s2, s3, fun H2 e2 => q H2 e2⟩
theorem scTu : FnScope ["one", "other", "third"] ["one", "other", "third"] (defScope s_turn_of) := ⟨rfl, rfl, rfl, by decide +kernel, rfl, by decide +kernel, by decide +kernel⟩
theorem ok_turn {f : Addr} {fd : FuncData} (F : Fun K "turn_of" "turn_of" s_turn_of f fd) : FnOk P w K mg base CX0 1 f fd ["one", "other", "third"] (spTri fun a b c => .int (turnZ a b c)) := by
  refine F.ok scTu (fun vs H Q E h => ?_) (fun cdv A outer s H vs Q E hr h => ?_)
  · obtain ⟨x, y, z, a, b, c, rfl, _⟩ := h
    rfl
  · obtain ⟨x, y, z, a, b, c, rfl, hx, hy, hz, sa, sb, sc, k⟩ := h
    refine ⟨_, pss_one (ps_ret (pe_op op_sub (pe_op op_mul (pe_op op_sub (pe_ix ix_tup (pv 1) pe_int (fun _ _ => rfl)) (pe_ix ix_tup (pv 0) pe_int (fun _ _ => rfl))) (pe_op op_sub (pe_ix ix_tup (pv 2) pe_int (fun _ _ => rfl)) (pe_ix ix_tup (pv 0) pe_int (fun _ _ => rfl))))
      (pe_op op_mul (pe_op op_sub (pe_ix ix_tup (pv 1) pe_int (fun _ _ => rfl)) (pe_ix ix_tup (pv 0) pe_int (fun _ _ => rfl))) (pe_op op_sub (pe_ix ix_tup (pv 2) pe_int (fun _ _ => rfl)) (pe_ix ix_tup (pv 0) pe_int (fun _ _ => rfl)))))), ?_⟩
    obtain ⟨a1, a2, a3, a4⟩ := sa
    obtain ⟨b1, b2, b3, b4⟩ := sb
    exact s_ret (ev_op (ev_op (ev_op (ev_p0 rfl hy) (ev_p0 rfl hx) rv_I0) (ev_op (ev_p1 rfl hz) (ev_p1 rfl hx) rv_I0) (rv_mul (by omega) (by omega)))
      (ev_op (ev_op (ev_p1 rfl hy) (ev_p1 rfl hx) rv_I0) (ev_op (ev_p0 rfl hz) (ev_p0 rfl hx) rv_I0) (rv_mul (by omega) (by omega))) rv_I0) (fun H1 e1 => k.go e1)
theorem scSi : FnScope ["one", "other", "third"] ["one", "other", "third"] (defScope s_law_st_side) := ⟨rfl, rfl, rfl, by decide +kernel, rfl, by decide +kernel, by decide +kernel⟩
theorem ok_side {f : Addr} {fd : FuncData} (F : Fun K "_law_st_side" "_law_st_side" s_law_st_side f fd) : FnOk P w K mg base CX0 1 f fd ["one", "other", "third"] (spTri fun a b c => .int (sideZ a b c)) := by
  refine F.ok scSi (fun vs H Q E h => ?_) (fun cdv A outer s H vs Q E hr h => ?_)
  · obtain ⟨x, y, z, a, b, c, rfl, _⟩ := h
    rfl
  · obtain ⟨x, y, z, a, b, c, rfl, hx, hy, hz, sa, sb, sc, k⟩ := h
    refine ⟨_, pss_one (ps_ret (pe_op op_sub (pe_op op_mul (pe_op op_sub (pe_ix ix_tup (pv 1) pe_int (fun _ _ => rfl)) (pe_ix ix_tup (pv 0) pe_int (fun _ _ => rfl))) (pe_op op_sub (pe_ix ix_tup (pv 2) pe_int (fun _ _ => rfl)) (pe_ix ix_tup (pv 0) pe_int (fun _ _ => rfl))))
      (pe_op op_mul (pe_op op_sub (pe_ix ix_tup (pv 2) pe_int (fun _ _ => rfl)) (pe_ix ix_tup (pv 0) pe_int (fun _ _ => rfl))) (pe_op op_sub (pe_ix ix_tup (pv 1) pe_int (fun _ _ => rfl)) (pe_ix ix_tup (pv 0) pe_int (fun _ _ => rfl)))))), ?_⟩
    obtain ⟨a1, a2, a3, a4⟩ := sa
    obtain ⟨b1, b2, b3, b4⟩ := sb
    obtain ⟨c1, c2, c3, c4⟩ := sc
    exact s_ret (ev_op (ev_op (ev_op (ev_p0 rfl hy) (ev_p0 rfl hx) rv_I0) (ev_op (ev_p1 rfl hz) (ev_p1 rfl hx) rv_I0) (rv_mul (by omega) (by omega)))
      (ev_op (ev_op (ev_p0 rfl hz) (ev_p0 rfl hx) rv_I0) (ev_op (ev_p1 rfl hy) (ev_p1 rfl hx) rv_I0) (rv_mul (by omega) (by omega))) rv_I0) (fun H1 e1 => k.go e1)
/-! ### is_between, _law_st_on -/
def betZ (p a b : Pt) : Bool := decide (turnZ a b p = 0) && ((decide (min a.1 b.1 ≤ p.1) && decide (p.1 ≤ max a.1 b.1)) && (decide (min a.2 b.2 ≤ p.2) && decide (p.2 ≤ max a.2 b.2)))
structure GeB (mg : Str → Option Value) : Prop where
  min : mg "min" = none
  max : mg "max" = none
theorem scBe : FnScope ["place", "one", "other", "wide"] ["place", "one", "other"] (defScope s_is_between) := ⟨rfl, rfl, rfl, by decide +kernel, rfl, by decide +kernel, by decide +kernel⟩
theorem ev_min {σ : L2.St} {H : Hp} {ta tb : TE} {i j : Int} (ha : Ev ta σ H (.int i)) (hb : Ev tb σ H (.int j)) : Ev (tCB (fun xs H Q => ∃ i j, xs = [.int i, .int j] ∧ Q (.int (if j < i then j else i)) H) (tCons ta (tCons tb tNil))) σ H (.int (min i j)) :=
  ev_is (ev_cb (ea_cons ha (ea_cons hb ea_nil)) fun H1 _ Q q => ⟨i, j, rfl, q H1 (Ex.refl _)⟩) (congrArg V.int (by split <;> omega))
theorem ev_max {σ : L2.St} {H : Hp} {ta tb : TE} {i j : Int} (ha : Ev ta σ H (.int i)) (hb : Ev tb σ H (.int j)) : Ev (tCB (fun xs H Q => ∃ i j, xs = [.int i, .int j] ∧ Q (.int (if j > i then j else i)) H) (tCons ta (tCons tb tNil))) σ H (.int (max i j)) :=
  ev_is (ev_cb (ea_cons ha (ea_cons hb ea_nil)) fun H1 _ Q q => ⟨i, j, rfl, q H1 (Ex.refl _)⟩) (congrArg V.int (by split <;> omega))
theorem ok_between {f fT : Addr} {fd fdT : FuncData} (F : Fun K "is_between" "is_between" s_is_between f fd) (B : GeB mg) (FT : Fun K "turn_of" "turn_of" s_turn_of fT fdT) (mgT : mg "turn_of" = some (.ref fT)) :
    FnOk P w K mg base CX0 2 f fd ["place", "one", "other"] (spTri fun p a b => .bl (betZ p a b)) := by
  have GT : FnOk P w K mg base CX0 1 fT fdT ["one", "other", "third"] (spTri fun a b c => .int (turnZ a b c)) := ok_turn FT
  have bT : Binds K fdT ["one", "other", "third"] [] := FT.binds (ps := ["one", "other", "third"]) fun _ _ _ _ _ _ us hl => match us, hl with | [_, _, _], _ => rfl
  refine F.ok scBe (fun vs H Q E h => ?_) (fun cdv A outer s H vs Q E hr h => ?_)
  · obtain ⟨x, y, z, a, b, c, rfl, _⟩ := h
    rfl
  · obtain ⟨x, y, z, p, a, b, rfl, hx, hy, hz, sp, sa, sb, k⟩ := h
    refine ⟨_, pss_cons (ps_if (pt_cmpR op_ne (pe_call GT hr (by rfl) mgT FT.kp bT .nil pass0 (pa_cons (pv 1) (pa_cons (pv 2) (pa_cons (pv 0) pa_nil)))) pe_int (nomark _)) (pss_one (ps_ret pe_bl)) pss_nil)
      (pss_cons (ps_set (i := 3) scBe.nd rfl (Or.inl rfl) (pe_chain op_le op_le (pe_callB (call_min2 rfl) (by rfl) B.min (by decide +kernel) (pa_cons (pe_ix ix_tup (pv 1) pe_int (fun _ _ => rfl)) (pa_cons (pe_ix ix_tup (pv 2) pe_int (fun _ _ => rfl)) pa_nil))) (pe_ix ix_tup (pv 0) pe_int (fun _ _ => rfl))
        (pe_callB (call_max2 rfl) (by rfl) B.max (by decide +kernel) (pa_cons (pe_ix ix_tup (pv 1) pe_int (fun _ _ => rfl)) (pa_cons (pe_ix ix_tup (pv 2) pe_int (fun _ _ => rfl)) pa_nil)))))
      (pss_one (ps_ret (pe_and (pv 3) (pe_one (pe_chain op_le op_le (pe_callB (call_min2 rfl) (by rfl) B.min (by decide +kernel) (pa_cons (pe_ix ix_tup (pv 1) pe_int (fun _ _ => rfl)) (pa_cons (pe_ix ix_tup (pv 2) pe_int (fun _ _ => rfl)) pa_nil))) (pe_ix ix_tup (pv 0) pe_int (fun _ _ => rfl))
        (pe_callB (call_max2 rfl) (by rfl) B.max (by decide +kernel) (pa_cons (pe_ix ix_tup (pv 1) pe_int (fun _ _ => rfl)) (pa_cons (pe_ix ix_tup (pv 2) pe_int (fun _ _ => rfl)) pa_nil))))))))), ?_⟩
    have e0 : (V.int (turnZ a b p) = V.int 0) ↔ turnZ a b p = 0 := ⟨fun e => V.int.inj e, fun e => congrArg V.int e⟩
    refine q_when (et_test (ev_op (ev_call (ea_cons (ev_var rfl) (ea_cons (ev_var rfl) (ea_cons (ev_var rfl) ea_nil))) (sp_tri hy hz hx sa sb sp)) ev_c (rv_ne rfl))) (fun hb H1 e1 => ?_) (fun hb H1 e1 => ?_)
    · have hz : ¬ turnZ a b p = 0 := fun e => by
        rw [decide_eq_true (e0.mpr e)] at hb
        cases hb
      refine s_ret (v := .bl false) ev_c (fun H2 e2 => ?_)
      have hf : betZ p a b = false := by
        unfold betZ
        rw [decide_eq_false hz, Bool.false_and]
      rw [← hf]
      exact k.go (e1.trans e2)
    · have hz0 : turnZ a b p = 0 := by
        by_cases e : turnZ a b p = 0
        · exact e
        · rw [decide_eq_false (fun z => e (e0.mp z))] at hb
          cases hb
      refine q_asg (v := .bl (decide (min a.1 b.1 ≤ p.1) && decide (p.1 ≤ max a.1 b.1))) (ev_chain (ev_min (ev_p0 rfl (hy.up e1)) (ev_p0 rfl (hz.up e1))) (ev_p0 rfl (hx.up e1)) rv_I0 (fun _ => ev_max (ev_p0 rfl (hy.up e1)) (ev_p0 rfl (hz.up e1))) (fun _ => rv_I0)) (fun H2 e2 => ?_)
      have e12 := e1.trans e2
      refine s_ret (v := .bl (betZ p a b)) (ev_is (ev_andV (ev_var rfl) (fun _ => ev_chain (ev_min (ev_p1 rfl (hy.up e12)) (ev_p1 rfl (hz.up e12))) (ev_p1 rfl (hx.up e12)) rv_I0 (fun _ => ev_max (ev_p1 rfl (hy.up e12)) (ev_p1 rfl (hz.up e12))) (fun _ => rv_I0))) ?_) (fun H3 e3 => k.go (e12.trans e3))
      unfold betZ
      rw [decide_eq_true hz0, Bool.true_and]
/-! ### sign, do_cross -/
def sgn (z : Int) : Int := if z > 0 then 1 else if z < 0 then -1 else 0
theorem sgn_b (z : Int) : (if decide (0 < z) = true then (1 : Int) else 0) - (if decide (z < 0) = true then (1 : Int) else 0) = sgn z := by
  unfold sgn
  by_cases h1 : 0 < z
  · rw [if_pos (decide_eq_true h1), if_pos h1, if_neg (by rw [decide_eq_false (by omega)]; exact Bool.false_ne_true)]
    rfl
  · rw [if_neg (by rw [decide_eq_false h1]; exact Bool.false_ne_true), if_neg h1]
    by_cases h2 : z < 0
    · rw [if_pos (decide_eq_true h2), if_pos h2]
      rfl
    · rw [if_neg (by rw [decide_eq_false h2]; exact Bool.false_ne_true), if_neg h2]
      rfl
theorem sgn_small (z : Int) : -1 ≤ sgn z ∧ sgn z ≤ 1 := by
  unfold sgn
  split
  · omega
  · split <;> omega
theorem op_subB {X : Cx} : OpR X (binaryOp .Sub) (fun x y H Q => ∃ a b : Bool, x = .bl a ∧ y = .bl b ∧ Q (.int ((if a = true then 1 else 0) - (if b = true then 1 else 0))) H) := by
  intro pins s σ H x y v u Q I rx ry h
  obtain ⟨a, b, rfl, rfl, q⟩ := h
  cases rx
  cases ry
  exact PyProof.Rows.sub_bool ⟨.int ((if a = true then 1 else 0) - (if b = true then 1 else 0)), H, I.tok _, ⟨s.toks, by cases a <;> cases b <;> rfl⟩, q⟩
theorem scSg : FnScope ["number"] ["number"] (defScope s_sign) := ⟨rfl, rfl, rfl, by decide +kernel, rfl, by decide +kernel, by decide +kernel⟩
def spSign : Sp := fun vs H Q _ => ∃ z : Int, vs = [.int z] ∧ RetV (.int (sgn z)) H Q
theorem ok_sign {f : Addr} {fd : FuncData} (F : Fun K "sign" "sign" s_sign f fd) : FnOk P w K mg base CX0 1 f fd ["number"] spSign := by
  refine F.ok scSg (fun vs H Q E h => ?_) (fun cdv A outer s H vs Q E hr h => ?_)
  · obtain ⟨z, rfl, _⟩ := h
    rfl
  · obtain ⟨z, rfl, k⟩ := h
    refine ⟨_, pss_one (ps_ret (pe_op op_subB (pe_cmpR op_gt (pv 0) pe_int (nomark _)) (pe_cmpR op_lt (pv 0) pe_int (nomark _)))), ?_⟩
    refine s_ret (v := .int (sgn z)) (ev_is (ev_op (z := .int ((if decide (0 < z) = true then 1 else 0) - (if decide (z < 0) = true then 1 else 0))) (ev_op (ev_var rfl) ev_c rv_I0) (ev_op (ev_var rfl) ev_c rv_I0) (fun H1 _ Q q => ⟨_, _, rfl, rfl, q H1 (Ex.refl _)⟩)) (congrArg V.int (sgn_b z))) (fun H1 e1 => k.go e1)
/-- the place of the point i -/
def atP (ps : List Pt) (i : Int) : Pt := ps.getD i.toNat (0, 0)
theorem ev_place {σ : L2.St} {H : Hp} {te : TE} {i : Nat} {a : Addr} {xs : List V} {ps : List Pt} {j : Int} (h : σ[i]? = some (some (.ref a))) (hx : SqT K H a xs) (hp : PrL H xs ps) (hj : Ev te σ H (.int j)) (h0 : 0 ≤ j) (h1 : j < ps.length) :
    ∃ x, Ev (tOp (rIxT K) (tVar i) te) σ H x ∧ PairV H x (atP ps j) := by
  have hl := hp.len
  have hi : j.toNat < xs.length := by omega
  obtain ⟨p, h2, h3⟩ := hp.get j.toNat xs[j.toNat] (List.getElem?_eq_getElem hi)
  refine ⟨xs[j.toNat], ev_op (ev_var h) hj (rv_ixT hx ?_), ?_⟩
  · have e : j = ((j.toNat : Nat) : Int) := by omega
    have q := atI_nat (List.getElem?_eq_getElem hi)
    rw [← e] at q
    exact q
  · unfold atP
    rw [List.getD_eq_getElem?_getD, h2]
    exact h3
theorem sm_at {ps : List Pt} (h : ∀ p ∈ ps, Sm p) (j : Int) : Sm (atP ps j) := by
  unfold atP
  rw [List.getD_eq_getElem?_getD]
  cases e : ps[j.toNat]? with
  | none => exact ⟨by decide, by decide, by decide, by decide⟩
  | some p => exact h p (List.mem_of_getElem? e)
/-- a tie of points below n -/
def InR (n : Nat) (p : Int × Int) : Prop := 0 ≤ p.1 ∧ p.1 < n ∧ 0 ≤ p.2 ∧ p.2 < n
def crossQ (a b c d : Pt) : Bool := decide (sgn (turnZ a b c) * sgn (turnZ a b d) < 0) && decide (sgn (turnZ c d a) * sgn (turnZ c d b) < 0)
def crossZ (ps : List Pt) (p q : Int × Int) : Bool := crossQ (atP ps p.1) (atP ps p.2) (atP ps q.1) (atP ps q.2)
def spCross (K : PySem.W.Frag) : Sp := fun vs H Q _ => ∃ (a : Addr) (xs : List V) (ps : List Pt) (t o : V) (p q : Int × Int), vs = [.ref a, t, o] ∧ SqT K H a xs ∧ PrL H xs ps ∧ (∀ p ∈ ps, Sm p) ∧ PairV H t p ∧ PairV H o q ∧ InR ps.length p ∧ InR ps.length q ∧ RetV (.bl (crossZ ps p q)) H Q
theorem scCr : FnScope ["places", "tie", "other", "one", "two", "three", "four", "apart"] ["places", "tie", "other"] (defScope s_do_cross) := ⟨rfl, rfl, rfl, by decide +kernel, rfl, by decide +kernel, by decide +kernel⟩
theorem sp_sign {H : Hp} {z : Int} : SpV spSign [.int z] H (.int (sgn z)) := fun H1 e Q q E => ⟨z, rfl, fun H2 e2 => q H2 e2⟩
theorem q_tupG {σ : L2.St} {H : Hp} {te : TE} {g : TG} {tz : TS} {D : Ends} {xs : List V} (h : EvU te σ H xs) (k : ∀ p H1, H p = none → Ex H H1 → H1 p = some (.tup xs) → g (.ref p) σ H1 fun σ' H' => tz D σ' H') : tSeq (tAsg te g) tz D σ H :=
  h H (Ex.refl H) _ fun p H1 a b c => k p H1 a b c
theorem rv_mulS {H : Hp} {a b : Int} : RV (rI CMul fun i j => .int (i * j)) (.int (sgn a)) (.int (sgn b)) H (.int (sgn a * sgn b)) := rv_mul (by have := sgn_small a; omega) (by have := sgn_small a; omega)
theorem ok_cross {f fT fS : Addr} {fd fdT fdS : FuncData} (F : Fun K "do_cross" "do_cross" s_do_cross f fd) (FT : Fun K "turn_of" "turn_of" s_turn_of fT fdT) (mgT : mg "turn_of" = some (.ref fT)) (FS : Fun K "sign" "sign" s_sign fS fdS) (mgS : mg "sign" = some (.ref fS)) :
    FnOk P w K mg base CX0 2 f fd ["places", "tie", "other"] (spCross K) := by
  have GT : FnOk P w K mg base CX0 1 fT fdT ["one", "other", "third"] (spTri fun a b c => .int (turnZ a b c)) := ok_turn FT
  have bT : Binds K fdT ["one", "other", "third"] [] := FT.binds (ps := ["one", "other", "third"]) fun _ _ _ _ _ _ us hl => match us, hl with | [_, _, _], _ => rfl
  have GS : FnOk P w K mg base CX0 1 fS fdS ["number"] spSign := ok_sign FS
  have bS : Binds K fdS ["number"] [] := FS.binds (ps := ["number"]) fun _ _ _ _ _ _ us hl => match us, hl with | [_], _ => rfl
  refine F.ok scCr (fun vs H Q E h => ?_) (fun cdv A outer s H vs Q E hr h => ?_)
  · obtain ⟨a, xs, ps, t, o, p, q, rfl, _⟩ := h
    rfl
  · obtain ⟨a, xs, ps, t, o, p, q, rfl, hx, hp, sm, ht, ho, ip, iq, k⟩ := h
    refine ⟨_, pss_cons (ps_asg (pe_tup (pa_cons (pe_ix ix_tup (pv 0) (pe_ix ix_tup (pv 1) pe_int (fun _ _ => rfl)) (fun _ _ => rfl)) (pa_cons (pe_ix ix_tup (pv 0) (pe_ix ix_tup (pv 1) pe_int (fun _ _ => rfl)) (fun _ _ => rfl))
        (pa_cons (pe_ix ix_tup (pv 0) (pe_ix ix_tup (pv 2) pe_int (fun _ _ => rfl)) (fun _ _ => rfl)) (pa_cons (pe_ix ix_tup (pv 0) (pe_ix ix_tup (pv 2) pe_int (fun _ _ => rfl)) (fun _ _ => rfl)) pa_nil)))))
        (pg_tup rfl (pgs_cons (pg_name (i := 3) scCr.nd rfl (Or.inl rfl)) (pgs_cons (pg_name (i := 4) scCr.nd rfl (Or.inl rfl)) (pgs_cons (pg_name (i := 5) scCr.nd rfl (Or.inl rfl)) (pgs_cons (pg_name (i := 6) scCr.nd rfl (Or.inl rfl)) pgs_nil))))))
      (pss_cons (ps_set (i := 7) scCr.nd rfl (Or.inl rfl) (pe_op op_mul (pe_call GS hr (by rfl) mgS FS.kp bS .nil pass0 (pa_cons (pe_call GT hr (by rfl) mgT FT.kp bT .nil pass0 (pa_cons (pv 3) (pa_cons (pv 4) (pa_cons (pv 5) pa_nil)))) pa_nil))
        (pe_call GS hr (by rfl) mgS FS.kp bS .nil pass0 (pa_cons (pe_call GT hr (by rfl) mgT FT.kp bT .nil pass0 (pa_cons (pv 3) (pa_cons (pv 4) (pa_cons (pv 6) pa_nil)))) pa_nil))))
      (pss_one (ps_ret (pe_and (pe_cmpR op_lt (pv 7) pe_int (nomark _)) (pe_one (pe_cmpR op_lt (pe_op op_mul (pe_call GS hr (by rfl) mgS FS.kp bS .nil pass0 (pa_cons (pe_call GT hr (by rfl) mgT FT.kp bT .nil pass0 (pa_cons (pv 5) (pa_cons (pv 6) (pa_cons (pv 3) pa_nil)))) pa_nil))
        (pe_call GS hr (by rfl) mgS FS.kp bS .nil pass0 (pa_cons (pe_call GT hr (by rfl) mgT FT.kp bT .nil pass0 (pa_cons (pv 5) (pa_cons (pv 6) (pa_cons (pv 4) pa_nil)))) pa_nil))) pe_int (nomark _))))))), ?_⟩
    obtain ⟨p0, p1, p2, p3⟩ := ip
    obtain ⟨q0, q1, q2, q3⟩ := iq
    obtain ⟨x1, v1, h1⟩ := ev_place (K := K) (σ := L2.start ["places", "tie", "other", "one", "two", "three", "four", "apart"] [.ref a, t, o]) (i := 0) rfl hx hp (ev_p0 (i := 1) rfl ht) p0 p1
    obtain ⟨x2, v2, h2⟩ := ev_place (K := K) (σ := L2.start ["places", "tie", "other", "one", "two", "three", "four", "apart"] [.ref a, t, o]) (i := 0) rfl hx hp (ev_p1 (i := 1) rfl ht) p2 p3
    obtain ⟨x3, v3, h3⟩ := ev_place (K := K) (σ := L2.start ["places", "tie", "other", "one", "two", "three", "four", "apart"] [.ref a, t, o]) (i := 0) rfl hx hp (ev_p0 (i := 2) rfl ho) q0 q1
    obtain ⟨x4, v4, h4⟩ := ev_place (K := K) (σ := L2.start ["places", "tie", "other", "one", "two", "three", "four", "apart"] [.ref a, t, o]) (i := 0) rfl hx hp (ev_p1 (i := 2) rfl ho) q2 q3
    refine q_tupG (eu_tup (ea_cons v1 (ea_cons v2 (ea_cons v3 (ea_cons v4 ea_nil)))) (by show 4 ≤ 100000; decide)) fun T H1 _ e1 hT => ?_
    refine ⟨T, _, rfl, SqT.of hT, rfl, _, _, rfl, _, _, rfl, _, _, rfl, _, _, rfl, rfl, ?_⟩
    have s1 := sm_at sm p.1
    have s2 := sm_at sm p.2
    have s3 := sm_at sm q.1
    have s4 := sm_at sm q.2
    refine q_asg (ev_op (ev_call (ea_cons (ev_call (ea_cons (ev_var rfl) (ea_cons (ev_var rfl) (ea_cons (ev_var rfl) ea_nil))) (sp_tri (h1.up e1) (h2.up e1) (h3.up e1) s1 s2 s3)) ea_nil) sp_sign)
      (ev_call (ea_cons (ev_call (ea_cons (ev_var rfl) (ea_cons (ev_var rfl) (ea_cons (ev_var rfl) ea_nil))) (sp_tri (h1.up e1) (h2.up e1) (h4.up e1) s1 s2 s4)) ea_nil) sp_sign) rv_mulS) (fun H2 e2 => ?_)
    have e12 := e1.trans e2
    exact s_ret (ev_andV (ev_op (ev_var rfl) ev_c rv_I0) (fun _ => ev_op (ev_op (ev_call (ea_cons (ev_call (ea_cons (ev_var rfl) (ea_cons (ev_var rfl) (ea_cons (ev_var rfl) ea_nil))) (sp_tri (h3.up e12) (h4.up e12) (h1.up e12) s3 s4 s1)) ea_nil) sp_sign)
      (ev_call (ea_cons (ev_call (ea_cons (ev_var rfl) (ea_cons (ev_var rfl) (ea_cons (ev_var rfl) ea_nil))) (sp_tri (h3.up e12) (h4.up e12) (h2.up e12) s3 s4 s2)) ea_nil) sp_sign) rv_mulS) ev_c rv_I0)) (fun H3 e3 => k.go (e12.trans e3))
/-! ### the law's own -/
def onZ (p a b : Pt) : Bool := decide (sideZ a b p = 0) && (decide ((p.1 - a.1) * (p.1 - b.1) ≤ 0) && decide ((p.2 - a.2) * (p.2 - b.2) ≤ 0))
theorem scOn : FnScope ["place", "one", "other"] ["place", "one", "other"] (defScope s_law_st_on) := ⟨rfl, rfl, rfl, by decide +kernel, rfl, by decide +kernel, by decide +kernel⟩
theorem ok_on {f fT : Addr} {fd fdT : FuncData} (F : Fun K "_law_st_on" "_law_st_on" s_law_st_on f fd) (FT : Fun K "_law_st_side" "_law_st_side" s_law_st_side fT fdT) (mgT : mg "_law_st_side" = some (.ref fT)) :
    FnOk P w K mg base CX0 2 f fd ["place", "one", "other"] (spTri fun p a b => .bl (onZ p a b)) := by
  have GT : FnOk P w K mg base CX0 1 fT fdT ["one", "other", "third"] (spTri fun a b c => .int (sideZ a b c)) := ok_side FT
  have bT : Binds K fdT ["one", "other", "third"] [] := FT.binds (ps := ["one", "other", "third"]) fun _ _ _ _ _ _ us hl => match us, hl with | [_, _, _], _ => rfl
  refine F.ok scOn (fun vs H Q E h => ?_) (fun cdv A outer s H vs Q E hr h => ?_)
  · obtain ⟨x, y, z, a, b, c, rfl, _⟩ := h
    rfl
  · obtain ⟨x, y, z, p, a, b, rfl, hx, hy, hz, sp, sa, sb, k⟩ := h
    refine ⟨_, pss_cons (ps_if (pt_cmpR op_ne (pe_call GT hr (by rfl) mgT FT.kp bT .nil pass0 (pa_cons (pv 1) (pa_cons (pv 2) (pa_cons (pv 0) pa_nil)))) pe_int (nomark _)) (pss_one (ps_ret pe_bl)) pss_nil)
      (pss_one (ps_ret (pe_and (pe_cmpR op_le (pe_op op_mul (pe_op op_sub (pe_ix ix_tup (pv 0) pe_int (fun _ _ => rfl)) (pe_ix ix_tup (pv 1) pe_int (fun _ _ => rfl))) (pe_op op_sub (pe_ix ix_tup (pv 0) pe_int (fun _ _ => rfl)) (pe_ix ix_tup (pv 2) pe_int (fun _ _ => rfl)))) pe_int (nomark _))
        (pe_one (pe_cmpR op_le (pe_op op_mul (pe_op op_sub (pe_ix ix_tup (pv 0) pe_int (fun _ _ => rfl)) (pe_ix ix_tup (pv 1) pe_int (fun _ _ => rfl))) (pe_op op_sub (pe_ix ix_tup (pv 0) pe_int (fun _ _ => rfl)) (pe_ix ix_tup (pv 2) pe_int (fun _ _ => rfl)))) pe_int (nomark _)))))), ?_⟩
    have e0 : (V.int (sideZ a b p) = V.int 0) ↔ sideZ a b p = 0 := ⟨fun e => V.int.inj e, fun e => congrArg V.int e⟩
    refine q_when (et_test (ev_op (ev_call (ea_cons (ev_var rfl) (ea_cons (ev_var rfl) (ea_cons (ev_var rfl) ea_nil))) (sp_tri hy hz hx sa sb sp)) ev_c (rv_ne rfl))) (fun hb H1 e1 => ?_) (fun hb H1 e1 => ?_)
    · have hz : ¬ sideZ a b p = 0 := fun e => by
        rw [decide_eq_true (e0.mpr e)] at hb
        cases hb
      refine s_ret (v := .bl false) ev_c (fun H2 e2 => ?_)
      have hf : onZ p a b = false := by
        unfold onZ
        rw [decide_eq_false hz, Bool.false_and]
      rw [← hf]
      exact k.go (e1.trans e2)
    · have hz0 : sideZ a b p = 0 := by
        by_cases e : sideZ a b p = 0
        · exact e
        · rw [decide_eq_false (fun z => e (e0.mp z))] at hb
          cases hb
      obtain ⟨a1, a2, a3, a4⟩ := sa
      obtain ⟨b1, b2, b3, b4⟩ := sp
      refine s_ret (v := .bl (onZ p a b)) (ev_is (ev_andV (ev_op (ev_op (ev_op (ev_p0 rfl (hx.up e1)) (ev_p0 rfl (hy.up e1)) rv_I0) (ev_op (ev_p0 rfl (hx.up e1)) (ev_p0 rfl (hz.up e1)) rv_I0) (rv_mul (by omega) (by omega))) ev_c rv_I0)
        (fun _ => ev_op (ev_op (ev_op (ev_p1 rfl (hx.up e1)) (ev_p1 rfl (hy.up e1)) rv_I0) (ev_op (ev_p1 rfl (hx.up e1)) (ev_p1 rfl (hz.up e1)) rv_I0) (rv_mul (by omega) (by omega))) ev_c rv_I0)) ?_) (fun H2 e2 => k.go (e1.trans e2))
      unfold onZ
      rw [decide_eq_true hz0, Bool.true_and]
def meetQ (a b c d : Pt) : Bool := (onZ c a b || (onZ d a b || onZ a c d)) || ((decide (0 < sideZ a b c) != decide (0 < sideZ a b d)) && (decide (0 < sideZ c d a) != decide (0 < sideZ c d b)))
end
end My
/-! _law_st_meet -/
namespace My
open PySem PySem.Spec PyProof.Rows L2 Evl
theorem inV3 (a b c : Bool) : inV (.bl true) [.bl a, .bl b, .bl c] = (a || (b || c)) := by
  cases a <;> cases b <;> cases c <;> decide
section
variable {P : Program} {w : World} {K : PySem.W.Frag} {mg : Str → Option Value} {base : Heap}
def spMeet : Sp := fun vs H Q _ => ∃ (x y z u : V) (a b c d : Pt), vs = [x, y, z, u] ∧ PairV H x a ∧ PairV H y b ∧ PairV H z c ∧ PairV H u d ∧ Sm a ∧ Sm b ∧ Sm c ∧ Sm d ∧ RetV (.bl (meetQ a b c d)) H Q
theorem scMe : FnScope ["one", "other", "third", "fourth", "first"] ["one", "other", "third", "fourth"] (defScope s_law_st_meet) := ⟨rfl, rfl, rfl, by decide +kernel, rfl, by decide +kernel, by decide +kernel⟩
theorem ok_meet {f fO fT : Addr} {fd fdO fdT : FuncData} (F : Fun K "_law_st_meet" "_law_st_meet" s_law_st_meet f fd) (FO : Fun K "_law_st_on" "_law_st_on" s_law_st_on fO fdO) (mgO : mg "_law_st_on" = some (.ref fO)) (FT : Fun K "_law_st_side" "_law_st_side" s_law_st_side fT fdT) (mgT : mg "_law_st_side" = some (.ref fT)) :
    FnOk P w K mg base CX0 3 f fd ["one", "other", "third", "fourth"] spMeet := by
  have GT : FnOk P w K mg base CX0 1 fT fdT ["one", "other", "third"] (spTri fun a b c => .int (sideZ a b c)) := ok_side FT
  have bT : Binds K fdT ["one", "other", "third"] [] := FT.binds (ps := ["one", "other", "third"]) fun _ _ _ _ _ _ us hl => match us, hl with | [_, _, _], _ => rfl
  have GO : FnOk P w K mg base CX0 2 fO fdO ["place", "one", "other"] (spTri fun p a b => .bl (onZ p a b)) := ok_on FO FT mgT
  have bO : Binds K fdO ["place", "one", "other"] [] := FO.binds (ps := ["place", "one", "other"]) fun _ _ _ _ _ _ us hl => match us, hl with | [_, _, _], _ => rfl
  refine F.ok scMe (fun vs H Q E h => ?_) (fun cdv A outer s H vs Q E hr h => ?_)
  · obtain ⟨x, y, z, u, a, b, c, d, rfl, _⟩ := h
    rfl
  · obtain ⟨x, y, z, u, a, b, c, d, rfl, hx, hy, hz, hu, sa, sb, sc, sd, k⟩ := h
    have hr1 := hr.mono (show 1 ≤ 2 by decide)
    refine ⟨_, pss_cons (ps_if (pt_cmpR op_in_seq pe_bl (pe_lst (pa_cons (pe_call GO hr (by rfl) mgO FO.kp bO .nil pass0 (pa_cons (pv 2) (pa_cons (pv 0) (pa_cons (pv 1) pa_nil))))
        (pa_cons (pe_call GO hr (by rfl) mgO FO.kp bO .nil pass0 (pa_cons (pv 3) (pa_cons (pv 0) (pa_cons (pv 1) pa_nil)))) (pa_cons (pe_call GO hr (by rfl) mgO FO.kp bO .nil pass0 (pa_cons (pv 0) (pa_cons (pv 2) (pa_cons (pv 3) pa_nil)))) pa_nil)))) (by rfl)) (pss_one (ps_ret pe_bl)) pss_nil)
      (pss_cons (ps_set (i := 4) scMe.nd rfl (Or.inl rfl) (pe_cmpR op_ne (pe_cmpR op_gt (pe_call GT hr1 (by rfl) mgT FT.kp bT .nil pass0 (pa_cons (pv 0) (pa_cons (pv 1) (pa_cons (pv 2) pa_nil)))) pe_int (nomark _))
          (pe_cmpR op_gt (pe_call GT hr1 (by rfl) mgT FT.kp bT .nil pass0 (pa_cons (pv 0) (pa_cons (pv 1) (pa_cons (pv 3) pa_nil)))) pe_int (nomark _)) (nomark _)))
      (pss_one (ps_ret (pe_and (pv 4) (pe_one (pe_cmpR op_ne (pe_cmpR op_gt (pe_call GT hr1 (by rfl) mgT FT.kp bT .nil pass0 (pa_cons (pv 2) (pa_cons (pv 3) (pa_cons (pv 0) pa_nil)))) pe_int (nomark _))
          (pe_cmpR op_gt (pe_call GT hr1 (by rfl) mgT FT.kp bT .nil pass0 (pa_cons (pv 2) (pa_cons (pv 3) (pa_cons (pv 1) pa_nil)))) pe_int (nomark _)) (nomark _))))))), ?_⟩
    refine q_when (et_test (ev_opL ev_c (el_lst (ea_cons (ev_call (ea_cons (ev_var rfl) (ea_cons (ev_var rfl) (ea_cons (ev_var rfl) ea_nil))) (sp_tri hz hx hy sc sa sb)) (ea_cons (ev_call (ea_cons (ev_var rfl) (ea_cons (ev_var rfl) (ea_cons (ev_var rfl) ea_nil))) (sp_tri hu hx hy sd sa sb))
      (ea_cons (ev_call (ea_cons (ev_var rfl) (ea_cons (ev_var rfl) (ea_cons (ev_var rfl) ea_nil))) (sp_tri hx hz hu sa sc sd)) ea_nil))) (by show 3 ≤ 100000; decide)) (fun p H1 hp _ => rv_isL (sq_of hp) rfl rfl))) (fun hb H1 e1 => ?_) (fun hb H1 e1 => ?_)
    · have hb' : (onZ c a b || (onZ d a b || onZ a c d)) = true := by
        rw [← inV3]
        exact hb
      refine s_ret (v := .bl true) ev_c (fun H2 e2 => ?_)
      have hf : meetQ a b c d = true := by
        unfold meetQ
        rw [hb', Bool.true_or]
      rw [← hf]
      exact k.go (e1.trans e2)
    · have hb' : (onZ c a b || (onZ d a b || onZ a c d)) = false := by
        rw [← inV3]
        exact hb
      refine q_asg (v := .bl (!decide (V.bl (decide (0 < sideZ a b c)) = V.bl (decide (0 < sideZ a b d))))) (ev_op (ev_op (ev_call (ea_cons (ev_var rfl) (ea_cons (ev_var rfl) (ea_cons (ev_var rfl) ea_nil))) (sp_tri (hx.up e1) (hy.up e1) (hz.up e1) sa sb sc)) ev_c rv_I0)
        (ev_op (ev_call (ea_cons (ev_var rfl) (ea_cons (ev_var rfl) (ea_cons (ev_var rfl) ea_nil))) (sp_tri (hx.up e1) (hy.up e1) (hu.up e1) sa sb sd)) ev_c rv_I0) (rv_ne rfl)) (fun H2 e2 => ?_)
      have e12 := e1.trans e2
      refine s_ret (v := .bl (meetQ a b c d)) (ev_is (ev_andV (ev_var rfl) (fun _ => ev_op (ev_op (ev_call (ea_cons (ev_var rfl) (ea_cons (ev_var rfl) (ea_cons (ev_var rfl) ea_nil))) (sp_tri (hz.up e12) (hu.up e12) (hx.up e12) sc sd sa)) ev_c rv_I0)
        (ev_op (ev_call (ea_cons (ev_var rfl) (ea_cons (ev_var rfl) (ea_cons (ev_var rfl) ea_nil))) (sp_tri (hz.up e12) (hu.up e12) (hy.up e12) sc sd sb)) ev_c rv_I0) (rv_ne rfl))) ?_) (fun H3 e3 => k.go (e12.trans e3))
      have bb : ∀ x y : Bool, (!decide (V.bl x = V.bl y)) = (x != y) := fun x y => by cases x <;> cases y <;> decide
      rw [bb, bb]
      unfold meetQ
      rw [hb', Bool.false_or]
end
end My
/-! enumerate(tuple) -/
namespace EnT
open PySem PySem.Spec PyProof.Rows
section
variable {prog : Program} {w : World} {A : Around} {E : Value → Shared → Prop} {s : Shared}
theorem next_item {I T : Addr} {n : Nat} {vs : Array Value} {y : Value} {Q : Value → Shared → Prop} (atI : s.heap.IsTupleIter I T n) (tup : s.heap.IsTuple T vs) (hy : vs[n]? = some y)
    (k : ∀ g, g.IsTupleIter I T (n + 1) → Heap.SameBut I s.heap g → Q y { s with heap := g }) : wpAny (model prog w) A (Builtin.SmallTypes.nextOf (.ref I)) Q E s := by
  obtain ⟨oi, gi, ci, di⟩ := id atI
  obtain ⟨ot, gt, _, nt, dt⟩ := tup
  unfold Builtin.SmallTypes.nextOf
  refine wpAny_bind (wpAny_callSpecial?_slot (name := Str.ofString "__next__") atI.typeIs F.slot_tuple_iterator_next (wpAny_call_entry F.slot_tuple_iterator_next atI.typeIs F.entry_tuple_iterator_next ?_ (F.args_tuple_iterator_next_1 _)))
  show wpAny _ _ (field (.ref I) 0 >>= _) _ _ s
  refine wpAny_bind (wpAny_field gi di (x := .ref T) rfl ?_)
  show wpAny _ _ (if (Value.ref T == Value.none) = true then _ else _) _ _ s
  rw [if_neg (show ¬ ((Value.ref T == Value.none) = true) from Bool.false_ne_true)]
  show wpAny _ _ (field (.ref I) 1 >>= _) _ _ s
  refine wpAny_bind (wpAny_field gi di (x := .int n 0) rfl ?_)
  show wpAny _ _ (seqItems? (.ref T) >>= _) _ _ s
  refine wpAny_bind (wpAny_seqItems gt dt ?_)
  simp only [Int.toNat_natCast, hy]
  refine wpAny_bind (wpAny_setField gi di (by simp) (wpAny_pure ⟨y, rfl, wpAny_pure (k _ ⟨_, Heap.get?_update_self _ gi (Obj.isFreed_of_fields (Obj.data_mapFields di _)), (Obj.cls_mapFields ..).trans ci, ?_⟩ (Heap.SameBut.update ..))⟩))
  rw [Obj.data_mapFields di]
  simp [rawInt]
theorem next_end {I T : Addr} {n : Nat} {vs : Array Value} {Q : Value → Shared → Prop} (calm : A.handled = none) (atI : s.heap.IsTupleIter I T n) (tup : s.heap.IsTuple T vs) (hy : vs[n]? = none)
    (k : ∀ g e, Heap.ExtBut I s.heap g → (∃ o, g.get? e = some o ∧ o.cls = .type "StopIteration") → E (.ref e) { s with heap := g }) : wpAny (model prog w) A (Builtin.SmallTypes.nextOf (.ref I)) Q E s := by
  obtain ⟨oi, gi, ci, di⟩ := id atI
  obtain ⟨ot, gt, _, nt, dt⟩ := tup
  unfold Builtin.SmallTypes.nextOf
  refine wpAny_bind (wpAny_callSpecial?_slot (name := Str.ofString "__next__") atI.typeIs F.slot_tuple_iterator_next (wpAny_call_entry F.slot_tuple_iterator_next atI.typeIs F.entry_tuple_iterator_next ?_ (F.args_tuple_iterator_next_1 _)))
  show wpAny _ _ (field (.ref I) 0 >>= _) _ _ s
  refine wpAny_bind (wpAny_field gi di (x := .ref T) rfl ?_)
  show wpAny _ _ (if (Value.ref T == Value.none) = true then _ else _) _ _ s
  rw [if_neg (show ¬ ((Value.ref T == Value.none) = true) from Bool.false_ne_true)]
  show wpAny _ _ (field (.ref I) 1 >>= _) _ _ s
  refine wpAny_bind (wpAny_field gi di (x := .int n 0) rfl ?_)
  show wpAny _ _ (seqItems? (.ref T) >>= _) _ _ s
  refine wpAny_bind (wpAny_seqItems gt dt ?_)
  simp only [Int.toNat_natCast, hy]
  refine wpAny_bind (wpAny_rule (wpAny_bind (wpAny_setField gi di (by simp) ?_)))
  refine wpAny_bind (m := newExc (.type "StopIteration") []) ?_
  simp only [newExc, newTuple]
  refine wpAny_bind (wpAny_newObj_type (by
    refine wpAny_bind (m := firstArgMember _ _) (wpAny_of_eq (a := Value.none) (by first | rfl | (simp only [firstArgMember]; rfl)) (wpAny_newObj_type ?_ (by size_fits)))
    simp only [raiseNew]
    refine wpAny_bind (wpAny_handled ?_)
    first
      | rw [show A.in1.handled = none from calm]
      | rw [calm]
    refine wpAny_bind (wpAny_pure (wpAny_throw (k _ _ (((Heap.SameBut.update ..).extBut.push _).push _) ⟨_, Heap.get?_push_size _ rfl, rfl⟩)))) (by size_fits))
theorem draws (calm : A.handled = none) (I T : Addr) (ne : T ≠ I) (vs : Array Value) : Draws prog w A I [I, T] vs.size (fun i v => vs[i]? = some v) (fun i h => h.IsTupleIter I T i ∧ h.IsTuple T vs) where
  live := fun _ _ st => let ⟨o, ho, _⟩ := st.1; ⟨o, ho⟩
  frame := fun _ _ _ st hk => ⟨let ⟨o, e, r⟩ := st.1; ⟨o, hk I (by simp) o e, r⟩, let ⟨o, e, r⟩ := st.2; ⟨o, hk T (by simp) o e, r⟩⟩
  item := fun i s Q E hi st hQ => next_item st.1 st.2 (y := vs[i]) (by simp [hi]) fun g a b => hQ _ g s.toks (by simp [hi]) ⟨a, st.2.extBut b.extBut ne⟩ b
  done := fun s Q E st hE => next_end calm st.1 st.2 (by simp) hE
theorem meets_new (l : Addr) (items : Array Value) (n : Nat) (dct : Option Addr) (sl : Array (Option Value)) :
    Meets (Builtin.«enumerate.__new__» ⟨[.type "enumerate", .ref l], []⟩) (fun _ R s => s.heap.get? l = some { cls := .type "tuple", dict := dct, data := .seq items n, slots := sl } ∧
      R (.ok (.ret (.ref (s.heap.push { cls := .type "tuple_iterator", data := .fields #[.ref l, .int 0 0] }).objs.size)))
        { s with heap := (s.heap.push { cls := .type "tuple_iterator", data := .fields #[.ref l, .int 0 0] }).push { cls := .type "enumerate", data := .fields #[.none, .bool false, .ref s.heap.objs.size, rawInt 0, .none, .none] } }) :=
  .of_wp fun prog w A R s h => by
    obtain ⟨hp, g, d, tk, os⟩ := s
    obtain ⟨hl, h⟩ := h
    have asks := sub_enumerate
    have tup : Heap.IsTuple (Shared.heap ⟨hp, g, d, tk, os⟩) l items := ⟨_, hl, rfl, n, rfl⟩
    wp_walk using AutoSeq1.wpAny_loadPart' hl
    refine wpAny_stack_any fun st => wpAny_pure ?_
    split
    · rename_i c _ _ _ _ _
      cases (c == Value.type "enumerate")
      · wp_walk using AutoSeq1.wpAny_loadPart' hl, wpAny_pyIter_tuple tup
        exact ⟨_, rfl, h⟩
      · wp_walk using AutoSeq1.wpAny_loadPart' hl, wpAny_pyIter_tuple tup
        exact ⟨_, rfl, h⟩
    · wp_walk using AutoSeq1.wpAny_loadPart' hl, wpAny_pyIter_tuple tup
      exact ⟨_, rfl, h⟩
theorem call_enum {l : Addr} {items : Array Value} {Q : Value → Shared → Prop} (tup : s.heap.IsTuple l items)
    (k : ∀ h', IsEnum h' (s.heap.objs.size + 1) s.heap.objs.size 0 .none → h'.IsTupleIter s.heap.objs.size l 0 → h'.objs.size = s.heap.objs.size + 2 → (∀ b o, s.heap.get? b = some o → h'.get? b = some o) → Q (.ref (s.heap.objs.size + 1)) { s with heap := h' }) :
    wpAny (model prog w) A (call (.type "enumerate") [.ref l]) Q E s := by
  obtain ⟨⟨c, dct, dt, sl⟩, gl, cl, n, dl⟩ := tup
  have cl : c = .type "tuple" := cl
  have dl : dt = .seq items n := dl
  subst cl dl
  refine callType_new F.called_enumerate (by decide) (F.typeCall_enumerate_1 _) (F.newCall_enumerate_1 _) (fun obj => F.args_object_init_2 obj _) F.entry_enumerate_new (meets_new l items n dct sl) ⟨gl, ?_⟩
  have sz : (s.heap.push { cls := .type "tuple_iterator", data := .fields #[.ref l, .int 0 0] }).objs.size = s.heap.objs.size + 1 := Heap.size_push ..
  show _ ∧ _
  rw [sz]
  have en : IsEnum ((s.heap.push { cls := .type "tuple_iterator", data := .fields #[.ref l, .int 0 0] }).push { cls := .type "enumerate", data := .fields #[.none, .bool false, .ref s.heap.objs.size, rawInt 0, .none, .none] }) (s.heap.objs.size + 1) s.heap.objs.size 0 .none := by
    have z := Heap.get?_push_size (s.heap.push { cls := .type "tuple_iterator", data := .fields #[.ref l, .int 0 0] }) (o := { cls := .type "enumerate", data := .fields #[.none, .bool false, .ref s.heap.objs.size, rawInt 0, .none, .none] }) rfl
    rw [sz] at z
    exact z
  exact ⟨⟨_, en, rfl⟩, k _ en ⟨_, Heap.get?_push_of_some _ (Heap.get?_push_size _ rfl), rfl, rfl⟩ (by rw [Heap.size_push, sz]) fun b o e => Heap.get?_push_of_some _ (Heap.get?_push_of_some _ e)⟩
end
end EnT
/-! enumerate(tuple) as a rule of the layer -/
namespace EnT
open PySem PySem.Spec PyProof.Rows L2
/-- the tuple at a, each item in a new pair -/
def IteT (K : PySem.W.Frag) (a : Addr) : It :=
  ⟨fun i H => ∃ (xs : List V) (x : V), SqT K H a xs ∧ xs[i]? = some x, fun i H v H' => ∃ T x, v = .ref T ∧ H T = none ∧ H' = upd H T (.tup [.int (i : Nat), x]) ∧ ∀ xs, SqT K H a xs → xs[i]? = some x, fun i H => ∃ xs : List V, SqT K H a xs ∧ xs.length = i⟩
theorem turn_enumT {P : Program} {w : World} {K : PySem.W.Frag} {elts : List Expr} {kk : Nat} {tpos : Pos} (a e it : Addr) :
    Turn P w K (.Tuple elts kk tpos) (IteT K a) [e, it] e (fun i h => (∃ old, IsEnum h e it ((i : Nat) : Int) old) ∧ h.IsTupleIter it a i ∧ e ≠ it ∧ a ≠ it ∧ a ≠ e) where
  mem := by simp
  obj := fun i h st b hb => by
    obtain ⟨⟨old, he⟩, ⟨o, ho, hc, hd⟩, _⟩ := st
    have e' : b = e ∨ b = it := by simpa using hb
    rcases e' with rfl | rfl
    · exact ⟨_, he, fun v q => nomatch q⟩
    · exact ⟨o, ho, fun v q => by rw [hd] at q; cases q⟩
  keep := fun i h h' st k => let ⟨⟨old, he⟩, ⟨o, ho, r⟩, ns⟩ := st; ⟨⟨old, k e (by simp) _ he⟩, ⟨o, k it (by simp) o ho, r⟩, ns⟩
  item := by
    intro X hP hw hK hc i pins s σ H E I hf st hg
    subst hP hw hK
    obtain ⟨⟨old, he⟩, hit, hne, nai, nae⟩ := st
    obtain ⟨xs, x, hq, hx⟩ := hg
    obtain ⟨its, rv, p, hz⟩ := I.tuple hq
    obtain ⟨u, hu, ru⟩ := rv.get hx
    have hel : e < s.heap.objs.size := Heap.lt_size he
    have hil : it < s.heap.objs.size := by obtain ⟨_, q, _⟩ := hit; exact Heap.lt_size q
    have hi : i < its.toArray.size := by
      rw [List.size_toArray]
      exact (List.getElem?_eq_some_iff.mp hu).1
    -- the frame of the draws is the iterator alone: the tuple stays
    refine wpAny_pyNext_enum_itemD (draws (A := X.A.in1) (I.ok.hd hc) it a nai its.toArray) he ⟨hit, p⟩ hi hne (by
      intro z
      rcases List.mem_cons.mp z with z | z
      · exact hne z
      · exact nae (List.mem_singleton.mp z).symm) fun y h' tk hy ho hst hT hsz hk => ?_
    have ey : y = u := by
      have q : its.toArray[i]? = some u := by simpa using hu
      rw [hy] at q
      exact Option.some.inj q
    subst ey
    refine ⟨_, rfl, wpAny_letOwnedTupleGo_enum (s := { s with heap := h', toks := tk + 1 }) ho fun h'' he' sb => ?_⟩
    have hT2 : h''.get? s.heap.objs.size = some { cls := .type "tuple", data := .seq #[.int i tk, y] } := (sb.2 _ (Nat.ne_of_gt hel)).trans hT
    have new : ObjOk X.prog X.w (upd H s.heap.objs.size (.tup [.int (i : Nat), x])) h'' s.heap.objs.size (.tup [.int (i : Nat), x]) := ⟨by show 2 ≤ sizeLine; decide, [.int i tk, y], .cons ⟨_, rfl⟩ (.cons ru .nil), ⟨_, hT2, rfl, _, rfl⟩⟩
    have I1 : Inv X pins σ (upd H s.heap.objs.size (.tup [.int (i : Nat), x])) { s with heap := h'', toks := tk + 1 } :=
      I.turnedNew (ch := [e, it]) (fun b ob hb q => (sb.2 b (fun z => hb (by simp [z]))).trans (hk b ob (fun z => hb (by simp [z])) (fun z => hb (by simp [z])) q)) hf (Nat.le_refl _) new
    obtain ⟨⟨oi, gi, ri⟩, _⟩ := hst
    refine ⟨.ref s.heap.objs.size, _, I1, rfl, ⟨_, x, rfl, I.hok.fresh (Nat.le_refl _), rfl, fun ys hy2 => by rw [I.tuple_inj hy2 hq]; exact hx⟩, ⟨⟨y, ?_⟩, ⟨oi, (sb.2 it (Ne.symm hne)).trans gi, ri⟩, hne, nai, nae⟩, fun b hb => ?_⟩
    · have e1 : ((i + 1 : Nat) : Int) = (i : Int) + 1 := by omega
      rw [e1]
      exact he'
    · have hb' : b < s.heap.objs.size := by
        have e' : b = e ∨ b = it := by simpa using hb
        rcases e' with z | z
        · rw [z]; exact hel
        · rw [z]; exact hil
      rw [upd_ne (Nat.ne_of_lt hb')]
      exact (hf b hb).1
  done := by
    intro X hP hw hK hc i pins s σ H E I hf st hg
    subst hP hw hK
    obtain ⟨⟨old, he⟩, hit, hne, nai, nae⟩ := st
    obtain ⟨xs, hq, hx⟩ := hg
    obtain ⟨its, rv, p, hz⟩ := I.tuple hq
    obtain ⟨f0, f1, f2, f3, f4, f5⟩ := hf it (by simp)
    have hl := rv.length
    have hi : i = its.toArray.size := by
      rw [List.size_toArray]
      omega
    exact wpAny_pyNext_enum_endD (draws (A := X.A.in1) (I.ok.hd hc) it a nai its.toArray) he ⟨by rw [← hi]; exact hit, p⟩ fun h' eb => ⟨rfl, I.turned (t' := s.toks) (fun b o hb q => eb b o hb q) f0 f1 f3 f4 f5⟩
  self := fun A i s Q E st h => let ⟨⟨_, he⟩, _⟩ := st; wpAny_pyIter_enum he h
def iEnumT (K : PySem.W.Frag) (ta : TA) : TI := fun σ H R => ta σ H fun vs H1 => ∃ a xs, vs = [.ref a] ∧ SqT K H1 a xs ∧ R (IteT K a) H1
theorem pi_enumT {X : Cx} {e : Expr} {ta : TA} {p pos tpos : Pos} {elts : List Expr} {kk : Nat} (hg : Gl X "enumerate") (hm : X.mg "enumerate" = none) (ha : PA X [e] ta) (hs : starEach [e] X.env = [(false, eval e X.env)] := by rfl) :
    PI X (.Tuple elts kk tpos) (.Call (.Name "enumerate" p) [e] [] pos) (iEnumT X.K ta) := by
  refine ⟨fun pins s σ H R I h => ?_⟩
  refine Call_ (ld_blt I hg hm boot_enumerate (PyProof.Rows.callWith_type1 (thn (ha.run pos pins s σ H _ I h) fun us s1 ⟨vs, H1, I1, r1, q1⟩ => ?_) hs rfl))
  obtain ⟨a, xs, ex, hq, q⟩ := q1
  subst ex
  cases r1 with
  | cons r rr =>
    cases rr
    cases r
    obtain ⟨its, rv, tup, hz⟩ := I1.tuple hq
    have la : a < s1.heap.objs.size := by
      obtain ⟨o, g, _⟩ := tup
      exact Heap.lt_size g
    refine call_enum tup fun h' he hit hsz hk => wpAny_pyIter_enum he ?_
    have I2 : Inv X pins σ H1 { s1 with heap := h' } := I1.kept (t' := s1.toks) hk
    refine ⟨s1.heap.objs.size + 1, [s1.heap.objs.size + 1, s1.heap.objs.size], _, _, H1, rfl, I2, turn_enumT a (s1.heap.objs.size + 1) s1.heap.objs.size, ⟨⟨.none, he⟩, hit, Nat.succ_ne_self _, Nat.ne_of_lt la, Nat.ne_of_lt (Nat.lt_succ_of_lt la)⟩, fun b hb => ?_, q⟩
    have hle : s1.heap.objs.size ≤ b := by
      rcases (by simpa using hb : b = s1.heap.objs.size + 1 ∨ b = s1.heap.objs.size) with z | z
      · rw [z]
        exact Nat.le_add_right _ _
      · rw [z]
        exact Nat.le_refl _
    exact I1.fpOk hle (I1.hok.fresh hle)
theorem walk_enumT {K : PySem.W.Frag} {a : Addr} {xs : List V} : Walk (IteT K a) xs.length (fun H => SqT K H a xs) (YPair (fun i => some (.int (i : Nat))) (fun i => xs[i]?)) := by
  refine ⟨fun i _ hi q => ⟨xs, xs[i], q, by simp [hi]⟩, fun _ q => ⟨xs, q, rfl⟩, fun i H v H' _ q y => ?_⟩
  obtain ⟨T, x, h1, h2, h3, h4⟩ := y
  exact ⟨T, .int (i : Nat), x, h1, h2, h3, rfl, h4 xs q⟩
end EnT
/-! loops that give back what they find first -/
namespace My
open PySem PySem.Spec PyProof.Rows L2 Evl
def firstN {ρ : Type} (n : Nat) (f : Nat → Option ρ) : Option ρ := (List.range n).findSome? f
theorem firstN_none {ρ : Type} {n : Nat} {f : Nat → Option ρ} (h : ∀ i < n, f i = none) : firstN n f = none := List.findSome?_eq_none_iff.mpr fun i hi => h i (List.mem_range.mp hi)
theorem findSome_app {α ρ : Type} {f : α → Option ρ} {r : ρ} : ∀ {l : List α} {x : α} {m : List α}, (∀ y ∈ l, f y = none) → f x = some r → (l ++ x :: m).findSome? f = some r
  | [], x, m, _, h => by
    rw [List.nil_append, List.findSome?_cons, h]
  | a :: l, x, m, h0, h => by
    rw [List.cons_append, List.findSome?_cons, h0 a List.mem_cons_self]
    exact findSome_app (fun y hy => h0 y (List.mem_cons_of_mem _ hy)) h
theorem firstN_some {ρ : Type} {n i : Nat} {f : Nat → Option ρ} {r : ρ} (hi : i < n) (h : f i = some r) (h0 : ∀ j < i, f j = none) : firstN n f = some r := by
  unfold firstN
  have e : List.range n = List.range i ++ i :: (List.range (n - i - 1)).map (i + 1 + ·) := by
    have e1 : n = i + (1 + (n - i - 1)) := by omega
    conv => lhs; rw [e1]
    rw [List.range_add, List.range_add, List.map_append, List.map_map]
    simp [List.range_succ]
    intro a _
    omega
  rw [e]
  exact findSome_app (fun y hy => h0 y (List.mem_range.mp hy)) h
theorem s_find {σ : L2.St} {H : Hp} {wi : TI} {g : TG} {tb : TS} {D : Ends} {n : Nat} {Y : Nat → Hp → V → Hp → Prop} {ρ : Type} (f : Nat → Option ρ) (ok : ρ → VK) (Shape : L2.St → Prop) (h0 : Shape σ)
    (hw : ∀ H1, Ex H H1 → ∀ R : It → Hp → Prop, (∀ J H2, Ex H1 H2 → Walk J n (fun H' => Ex H2 H') Y → R J H2) → wi σ H1 R)
    (hs : ∀ i x σ' H1 H2, i < n → Ex H H1 → Shape σ' → Y i H1 x H2 → ∀ N : L2.St → Hp → Prop, (f i = none → ∀ σ3 H3, Shape σ3 → Ex H1 H3 → N σ3 H3) → (∀ r, f i = some r → ∀ v H3, Ex H1 H3 → ok r v H3 → D.rt v H3) →
      g x σ' H2 fun σ2 H3 => tb { D with nx := N, ct := N, bk := D.nx } σ2 H3)
    (hd : firstN n f = none → ∀ σ' H', Shape σ' → Ex H H' → D.nx σ' H') (hr : ∀ r, firstN n f = some r → ∀ v H', Ex H H' → ok r v H' → D.rt v H') : tFor wi g tb D σ H :=
  hw H (Ex.refl H) _ fun J H2 e2 w => for_it w (fun i σ' H' => Shape σ' ∧ Ex H2 H' ∧ ∀ j < i, f j = none) ⟨h0, Ex.refl _, fun j h => absurd h (Nat.not_lt_zero _)⟩ (fun i σ' H' _ p => p.2.1)
    (fun i x σ' H3 H4 hi p y => hs i x σ' H3 H4 hi (e2.trans p.2.1) p.1 y _ (fun hf σ3 H5 s3 e5 => ⟨s3, p.2.1.trans e5, fun j hj => by
      rcases Nat.lt_succ_iff_lt_or_eq.mp hj with z | z
      · exact p.2.2 j z
      · subst z
        exact hf⟩) (fun r hf v H5 e5 o5 => hr r (firstN_some hi hf p.2.2) v H5 (e2.trans (p.2.1.trans e5)) o5)) (fun σ' H' p => hd (firstN_none p.2.2) σ' H' p.1 (e2.trans p.2.1))
theorem q_find {σ : L2.St} {H : Hp} {wi : TI} {g : TG} {tb tz : TS} {D : Ends} {n : Nat} {Y : Nat → Hp → V → Hp → Prop} {ρ : Type} (f : Nat → Option ρ) (ok : ρ → VK) (Shape : L2.St → Prop) (h0 : Shape σ)
    (hw : ∀ H1, Ex H H1 → ∀ R : It → Hp → Prop, (∀ J H2, Ex H1 H2 → Walk J n (fun H' => Ex H2 H') Y → R J H2) → wi σ H1 R)
    (hs : ∀ i x σ' H1 H2, i < n → Ex H H1 → Shape σ' → Y i H1 x H2 → ∀ N : L2.St → Hp → Prop, (f i = none → ∀ σ3 H3, Shape σ3 → Ex H1 H3 → N σ3 H3) → (∀ r, f i = some r → ∀ v H3, Ex H1 H3 → ok r v H3 → D.rt v H3) →
      g x σ' H2 fun σ2 H3 => tb { D with nx := N, ct := N, bk := tz D } σ2 H3)
    (hd : firstN n f = none → ∀ σ' H', Shape σ' → Ex H H' → tz D σ' H') (hr : ∀ r, firstN n f = some r → ∀ v H', Ex H H' → ok r v H' → D.rt v H') : tSeq (tFor wi g tb) tz D σ H :=
  s_find (D := { D with nx := tz D }) f ok Shape h0 hw hs hd hr
/-- range(n), range(lo, hi), a tuple -/
theorem w_rng1 {σ : L2.St} {H : Hp} {te : TE} {n : Nat} (h : Ev te σ H (.int (n : Int))) (hn : n ≤ 100000) : ∀ H1, Ex H H1 → ∀ R : It → Hp → Prop, (∀ J H2, Ex H1 H2 → Walk J n (fun H' => Ex H2 H') (YFn fun i => .int (i : Int)) → R J H2) → iRng1 (tCons te tNil) σ H1 R :=
  fun H1 e R hR => h H1 e _ fun H2 e2 => ⟨(n : Int), rfl, by omega, by omega, hR _ H2 e2 (Walk.mono (walk_range (lo := 0) (n := n)) (fun _ _ => trivial) fun i H' x H'' _ _ y => by
    obtain ⟨a, b⟩ := y
    refine ⟨a, ?_⟩
    rw [b]
    exact congrArg V.int (Int.zero_add _))⟩
theorem w_rng2 {σ : L2.St} {H : Hp} {ta tb : TE} {lo hi : Int} (ha : Ev ta σ H (.int lo)) (hb : Ev tb σ H (.int hi)) (h0 : 0 ≤ lo ∧ lo ≤ 100000 ∧ 0 ≤ hi ∧ hi ≤ 100000) : ∀ H1, Ex H H1 → ∀ R : It → Hp → Prop, (∀ J H2, Ex H1 H2 → Walk J (hi - lo).toNat (fun H' => Ex H2 H') (YFn fun i => .int (lo + (i : Int))) → R J H2) → iRng2 (tCons ta (tCons tb tNil)) σ H1 R :=
  fun H1 e R hR => ha H1 e _ fun H2 e2 => hb H2 (e.trans e2) _ fun H3 e3 => ⟨lo, hi, rfl, ⟨by omega, by omega, by omega, by omega⟩, hR _ H3 (e2.trans e3) (Walk.mono walk_range (fun _ _ => trivial) fun _ _ _ _ _ _ y => y)⟩
theorem w_tup {K : PySem.W.Frag} {σ : L2.St} {H : Hp} {te : TE} {xs : List V} (h : EvS K te σ H xs) : ∀ H1, Ex H H1 → ∀ R : It → Hp → Prop, (∀ J H2, Ex H1 H2 → Walk J xs.length (fun H' => Ex H2 H') (YAt xs) → R J H2) → iTup K te σ H1 R :=
  fun H1 e R hR => h H1 e _ fun p H2 e2 hp => ⟨p, rfl, ⟨xs, hp⟩, hR _ H2 e2 (Walk.mono (walk_tup (K := K) (a := p) (xs := xs)) (fun H' e' => ex_t e' hp) fun _ _ _ _ _ _ y => y)⟩
end My
/-! fault_at -/
namespace My
open PySem PySem.Spec PyProof.Rows L2 Evl
inductive Flt
  | same (i j : Int)
  | on (p : Int) (t : Int × Int)
  | cross (t o : Int × Int)
def FltV : Flt → VK
  | .same i j, v, H => ∃ T, v = .ref T ∧ H T = some (.tup [.str "same", .int i, .int j])
  | .on p t, v, H => ∃ T x, v = .ref T ∧ H T = some (.tup [.str "on", .int p, x]) ∧ PairV H x t
  | .cross t o, v, H => ∃ T x y, v = .ref T ∧ H T = some (.tup [.str "cross", x, y]) ∧ PairV H x t ∧ PairV H y o
def FltO : Option Flt → VK
  | none, v, _ => v = .non
  | some r, v, H => FltV r v H
def fSame (ps : List Pt) (m : Nat) : Option Flt := firstN m fun i => firstN ((m : Int) - ((i : Int) + 1)).toNat fun t => if atP ps (i : Int) = atP ps ((i : Int) + 1 + (t : Int)) then some (.same (i : Int) ((i : Int) + 1 + (t : Int))) else none
/-- the point p is no end of t -/
def offB (p : Int) (t : Int × Int) : Bool := !(t.1 == p || t.2 == p)
def fOn (on : Pt → Pt → Pt → Bool) (ps : List Pt) (ks : List (Int × Int)) (m : Nat) : Option Flt := firstN m fun p => firstN ks.length fun j => if (offB (p : Int) (ks.getD j (0, 0)) && on (atP ps (p : Int)) (atP ps (ks.getD j (0, 0)).1) (atP ps (ks.getD j (0, 0)).2)) = true then some (.on (p : Int) (ks.getD j (0, 0))) else none
def fCross (crs : (Int × Int) → (Int × Int) → Bool) (ks : List (Int × Int)) : Option Flt := firstN ks.length fun i => firstN (ks.drop (i + 1)).length fun j =>
  if (offB (ks.getD i (0, 0)).1 ((ks.drop (i + 1)).getD j (0, 0)) && (offB (ks.getD i (0, 0)).2 ((ks.drop (i + 1)).getD j (0, 0)) && crs (ks.getD i (0, 0)) ((ks.drop (i + 1)).getD j (0, 0)))) = true then some (.cross (ks.getD i (0, 0)) ((ks.drop (i + 1)).getD j (0, 0))) else none
def faultP (m : Nat) (ks : List (Int × Int)) (ps : List Pt) : Option Flt := (fSame ps m).or ((fOn betZ ps ks m).or (fCross (crossZ ps) ks))
theorem eqv_pair (p q : Int × Int) : PyData.eqv (.tuple [.int p.1, .int p.2]) (.tuple [.int q.1, .int q.2]) = decide (p = q) := by
  have e : PyData.eqv (.tuple [.int p.1, .int p.2]) (.tuple [.int q.1, .int q.2]) = (p.1 == q.1 && (p.2 == q.2 && true)) := by simp [PyData.eqv, PyData.eqvAll]
  rw [e, Bool.and_true, Bool.eq_iff_iff]
  obtain ⟨a, b⟩ := p
  obtain ⟨c, d⟩ := q
  simp
theorem rv_eqP {K : PySem.W.Frag} {H : Hp} {x y : V} {p q : Int × Int} (hx : PairV H x p) (hy : PairV H y q) : RV (rEqD K) x y H (.bl (decide (p = q))) := by
  obtain ⟨t, rfl, ht⟩ := hx
  obtain ⟨u, rfl, hu⟩ := hy
  exact rv_val fun H1 e Q k => ⟨.tuple [.int p.1, .int p.2], .tuple [.int q.1, .int q.2], .tup (SqT.of (e _ _ ht)) (.cons (.int _) (.cons (.int _) .nil)), .tup (SqT.of (e _ _ hu)) (.cons (.int _) (.cons (.int _) .nil)),
    by simp [SeqAt.shaped, PyData.canLay0, PyData.canLayAll0, PyData.depth, PyData.depthAll], by simp [SeqAt.shaped, PyData.canLay0, PyData.canLayAll0, PyData.depth, PyData.depthAll], by rw [eqv_pair]; exact k⟩
theorem rv_offB {K : PySem.W.Frag} {H : Hp} {x : V} {p : Int} {t : Int × Int} (hx : PairV H x t) : RV (rIn K true) (.int p) x H (.bl (offB p t)) := by
  obtain ⟨u, rfl, hu⟩ := hx
  have e : (!inV (.int p) [.int t.1, .int t.2]) = offB p t := by
    unfold offB inV
    simp [eqV]
  rw [← e]
  exact rv_niT (SqT.of hu) rfl rfl
section
variable {P : Program} {w : World} {K : PySem.W.Frag} {mg : Str → Option Value} {base : Heap}
theorem ev_many {C fI : Addr} (T : NtF K mg C fI) {σ : L2.St} {H : Hp} {te : TE} {x : V} {m : Int} {ks : List (Int × Int)} (h : Ev te σ H x) (hx : NetV K C H x m ks) : Ev (tFld K te "many") σ H (.int m) := by
  obtain ⟨s, dx, a, xs, rfl, h2, _⟩ := hx
  exact fun H1 e Q q => h H1 e _ fun H2 e2 => ⟨s, C, dx, _, .int m, rfl, e2 _ _ (e _ _ h2), T.cl, T.nM, rfl, q H2 e2⟩
theorem es_ties {C fI : Addr} (T : NtF K mg C fI) {H : Hp} {x : V} {m : Int} {ks : List (Int × Int)} (hx : NetV K C H x m ks) : ∃ xs, PrL H xs ks ∧ ∀ (te : TE) (σ : L2.St) (H' : Hp), Ex H H' → Ev te σ H' x → EvS K (tFld K te "ties") σ H' xs := by
  obtain ⟨s, dx, a, xs, rfl, h2, h3, h4⟩ := hx
  have ht : ¬ (("ties" : Str) = "many") := by decide +kernel
  exact ⟨xs, h4, fun te σ H' e h H1 e1 Q q => h H1 e1 _ fun H2 e2 => ⟨s, C, dx, _, .ref a, rfl, e2 _ _ (e1 _ _ (e _ _ h2)), T.cl, T.nT, rfl, q a H2 e2 (ex_t ((e.trans e1).trans e2) h3)⟩⟩
def RetF (r : Option Flt) (H : Hp) (Q : VK) : Prop := ∀ v H', Ex H H' → FltO r v H' → Q v H'
def spFaultAt (K : PySem.W.Frag) (C : Addr) : Sp := fun vs H Q _ => ∃ (x : V) (a : Addr) (m : Nat) (ks : List (Int × Int)) (xs : List V) (ps : List Pt), vs = [x, .ref a] ∧ NetV K C H x (m : Int) ks ∧ OkNet (m : Int) ks ∧ SqT K H a xs ∧ PrL H xs ps ∧ ps.length = m ∧ (∀ p ∈ ps, Sm p) ∧ RetF (faultP m ks ps) H Q
theorem scFa : FnScope ["net", "places", "one", "other", "point", "tie", "at"] ["net", "places"] (defScope s_fault_at) := ⟨rfl, rfl, rfl, by decide +kernel, rfl, by decide +kernel, by decide +kernel⟩
theorem in_r {m : Nat} {ks : List (Int × Int)} (ok : OkNet (m : Int) ks) {p : Int × Int} (h : p ∈ ks) : InR m p := by
  have := ok.tie p h
  exact ⟨by omega, by omega, by omega, by omega⟩
structure FaB (mg : Str → Option Value) : Prop where
  rng : mg "range" = none
  enu : mg "enumerate" = none
theorem ok_faultAt {f fB fC fT fS C fI : Addr} {fd fdB fdC fdT fdS : FuncData} (F : Fun K "fault_at" "fault_at" s_fault_at f fd) (T : NtF K mg C fI) (B : FaB mg) (G : GeB mg) (FB : Fun K "is_between" "is_between" s_is_between fB fdB) (mgB : mg "is_between" = some (.ref fB))
    (FC : Fun K "do_cross" "do_cross" s_do_cross fC fdC) (mgC : mg "do_cross" = some (.ref fC)) (FT : Fun K "turn_of" "turn_of" s_turn_of fT fdT) (mgT : mg "turn_of" = some (.ref fT)) (FS : Fun K "sign" "sign" s_sign fS fdS) (mgS : mg "sign" = some (.ref fS)) :
    FnOk P w K mg base CX0 3 f fd ["net", "places"] (spFaultAt K C) := by
  have GB : FnOk P w K mg base CX0 2 fB fdB ["place", "one", "other"] (spTri fun p a b => .bl (betZ p a b)) := ok_between FB G FT mgT
  have bB : Binds K fdB ["place", "one", "other"] [] := FB.binds (ps := ["place", "one", "other"]) fun _ _ _ _ _ _ us hl => match us, hl with | [_, _, _], _ => rfl
  have GC : FnOk P w K mg base CX0 2 fC fdC ["places", "tie", "other"] (spCross K) := ok_cross FC FT mgT FS mgS
  have bC : Binds K fdC ["places", "tie", "other"] [] := FC.binds (ps := ["places", "tie", "other"]) fun _ _ _ _ _ _ us hl => match us, hl with | [_, _, _], _ => rfl
  refine F.ok scFa (fun vs H Q E h => ?_) (fun cdv A outer s H vs Q E hr h => ?_)
  · obtain ⟨x, a, m, ks, xs, ps, rfl, _⟩ := h
    rfl
  · obtain ⟨x, a, m, ks, xs, ps, rfl, hN, ok, hx, hp, hm, sm, k⟩ := h
    have hu := hr.units
    refine ⟨_, pss_cons (ps_for PassesOwn.never rfl (pi_range1 (by rfl) B.rng (pa_cons (pe_fld (pv 0) rfl) pa_nil)) (pg_name (i := 2) scFa.nd rfl (Or.inl rfl))
        (pss_one (ps_for PassesOwn.never rfl (pi_range2 (by rfl) B.rng (pa_cons (pe_op op_add (pv 2) pe_int) (pa_cons (pe_fld (pv 0) rfl) pa_nil))) (pg_name (i := 3) scFa.nd rfl (Or.inl rfl))
          (pss_one (ps_if (pt_cmpR (op_eqD hu) (pe_ix ix_tup (pv 1) (pv 2) (fun _ _ => rfl)) (pe_ix ix_tup (pv 1) (pv 3) (fun _ _ => rfl)) (nomark _)) (pss_one (ps_ret (pe_tup (pa_cons pe_str (pa_cons (pv 2) (pa_cons (pv 3) pa_nil)))))) pss_nil)))))
      (pss_cons (ps_for PassesOwn.never rfl (pi_range1 (by rfl) B.rng (pa_cons (pe_fld (pv 0) rfl) pa_nil)) (pg_name (i := 4) scFa.nd rfl (Or.inl rfl))
        (pss_one (ps_for PassesOwn.never rfl (pi_tup (pe_fld (pv 0) rfl)) (pg_name (i := 5) scFa.nd rfl (Or.inl rfl))
          (pss_one (ps_if (PW.pt (pw_and (pt_cmpR op_notIn_seq (pv 4) (pv 5) (by rfl)) (pw_and1 (pt_val (pe_call GB hr (by rfl) mgB FB.kp bB .nil pass0 (pa_cons (pe_ix ix_tup (pv 1) (pv 4) (fun _ _ => rfl)) (pa_cons (pe_ix ix_tup (pv 1) (pe_ix ix_tup (pv 5) pe_int (fun _ _ => rfl)) (fun _ _ => rfl)) (pa_cons (pe_ix ix_tup (pv 1) (pe_ix ix_tup (pv 5) pe_int (fun _ _ => rfl)) (fun _ _ => rfl)) pa_nil))))))))
            (pss_one (ps_ret (pe_tup (pa_cons pe_str (pa_cons (pv 4) (pa_cons (pv 5) pa_nil)))))) pss_nil)))))
      (pss_cons (ps_for PassesOwn.never rfl (EnT.pi_enumT (by rfl) B.enu (pa_cons (pe_fld (pv 0) rfl) pa_nil)) (pg_tup rfl (pgs_cons (pg_name (i := 6) scFa.nd rfl (Or.inl rfl)) (pgs_cons (pg_name (i := 5) scFa.nd rfl (Or.inl rfl)) pgs_nil)))
        (pss_one (ps_for PassesOwn.never rfl (pi_tup (pe_slice sl_tupA (pe_fld (pv 0) rfl) (po_some (pe_op op_add (pv 6) pe_int)) po_none)) (pg_name (i := 3) scFa.nd rfl (Or.inl rfl))
          (pss_one (ps_if (PW.pt (pw_and (pt_cmpR op_notIn_seq (pe_ix ix_tup (pv 5) pe_int (fun _ _ => rfl)) (pv 3) (by rfl)) (pw_and (pt_cmpR op_notIn_seq (pe_ix ix_tup (pv 5) pe_int (fun _ _ => rfl)) (pv 3) (by rfl)) (pw_and1 (pt_val (pe_call GC hr (by rfl) mgC FC.kp bC .nil pass0 (pa_cons (pv 1) (pa_cons (pv 5) (pa_cons (pv 3) pa_nil)))))))))
            (pss_one (ps_ret (pe_tup (pa_cons pe_str (pa_cons (pv 5) (pa_cons (pv 3) pa_nil)))))) pss_nil)))))
      (pss_one (ps_ret pe_non)))), ?_⟩
    have hN1 := fun (H1 : Hp) (e : Ex H H1) => hN.up e
    have m0 := ok.lo
    have m24 := ok.hi
    obtain ⟨txs, htl, hties⟩ := es_ties T hN
    have hlt := htl.len
    have hfew := ok.few
    have inr : ∀ j, j < ks.length → InR m (ks.getD j (0, 0)) := fun j hj => by
      rw [List.getD_eq_getElem?_getD, List.getElem?_eq_getElem hj]
      exact in_r ok (List.getElem_mem hj)
    let Shape : L2.St → Prop := fun σ => ∃ v2 v3 v4 v5 v6 : Option V, σ = [some x, some (.ref a), v2, v3, v4, v5, v6]
    unfold faultP at k
    -- two points at one place
    refine q_find (n := m) (fun i => firstN ((m : Int) - ((i : Int) + 1)).toNat fun t => if atP ps (i : Int) = atP ps ((i : Int) + 1 + (t : Int)) then some (Flt.same (i : Int) ((i : Int) + 1 + (t : Int))) else none) FltV Shape ⟨_, _, _, _, _, rfl⟩ (w_rng1 (ev_many T (ev_var rfl) hN) (by omega)) ?_ ?_ ?_
    · rintro i z σ' H1 H2 hi e1 ⟨v2, v3, v4, v5, v6, rfl⟩ ⟨rfl, rfl⟩ N hN0 hR
      refine s_find (Y := YFn fun t => .int ((i : Int) + 1 + (t : Int))) (fun t => if atP ps (i : Int) = atP ps ((i : Int) + 1 + (t : Int)) then some (Flt.same (i : Int) ((i : Int) + 1 + (t : Int))) else none) FltV (fun σ => ∃ v3 v4 v5 v6 : Option V, σ = [some x, some (.ref a), some (.int (i : Int)), v3, v4, v5, v6]) ⟨_, _, _, _, rfl⟩
        (w_rng2 (ev_op (ev_var rfl) ev_c rv_I0) (ev_many T (ev_var rfl) (hN1 _ e1)) (by omega)) ?_ (fun h σ3 H3 s3 e3 => hN0 h σ3 H3 (by obtain ⟨_, _, _, _, rfl⟩ := s3; exact ⟨_, _, _, _, _, rfl⟩) e3) (fun r h v H3 e3 o => hR r h v H3 e3 o)
      rintro t z σ2 H3 H4 ht e3 ⟨v3, v4, v5, v6, rfl⟩ ⟨rfl, rfl⟩ N2 hN2 hR2
      have e13 := e1.trans e3
      obtain ⟨x1, w1, q1⟩ := ev_place (K := K) (σ := [some x, some (.ref a), some (.int (i : Int)), some (.int ((i : Int) + 1 + (t : Int))), v4, v5, v6]) (i := 0 + 1) rfl (ex_t e13 hx) (hp.up e13) (ev_var (i := 2) rfl) (by omega) (by omega)
      obtain ⟨x2, w2, q2⟩ := ev_place (K := K) (σ := [some x, some (.ref a), some (.int (i : Int)), some (.int ((i : Int) + 1 + (t : Int))), v4, v5, v6]) (i := 0 + 1) rfl (ex_t e13 hx) (hp.up e13) (ev_var (i := 3) rfl) (by omega) (by omega)
      refine s_when (et_test (ev_op w1 w2 (rv_eqP q1 q2))) (fun hb H5 e5 => ?_) (fun hb H5 e5 => hN2 (if_neg (of_decide_eq_false hb)) _ H5 ⟨_, _, _, _, rfl⟩ e5)
      exact s_retU (eu_tup (ea_cons ev_c (ea_cons (ev_var rfl) (ea_cons (ev_var rfl) ea_nil))) (by show 3 ≤ 100000; decide)) fun p H6 _ e6 h6 => hR2 _ (if_pos (of_decide_eq_true hb)) _ H6 (e5.trans e6) ⟨p, rfl, h6⟩
    rotate_left
    · intro r hr1 v H1 e1 o
      refine k v H1 e1 ?_
      rw [show fSame ps m = some r from hr1]
      exact o
    intro hs0 σ1 H1 sh1 e1
    obtain ⟨v2, v3, v4, v5, v6, rfl⟩ := sh1
    rw [show fSame ps m = none from hs0, Option.none_or] at k
    -- a point on a tie
    refine q_find (n := m) (fun p => firstN ks.length fun j => if (offB (p : Int) (ks.getD j (0, 0)) && betZ (atP ps (p : Int)) (atP ps (ks.getD j (0, 0)).1) (atP ps (ks.getD j (0, 0)).2)) = true then some (Flt.on (p : Int) (ks.getD j (0, 0))) else none) FltV Shape ⟨_, _, _, _, _, rfl⟩ (w_rng1 (ev_many T (ev_var rfl) (hN1 _ e1)) (by omega)) ?_ ?_ ?_
    · rintro i z σ' H2 H2' hi e2 ⟨v2, v3, v4, v5, v6, rfl⟩ ⟨rfl, rfl⟩ N hN0 hR
      have e12 := e1.trans e2
      refine s_find (n := ks.length) (Y := YAt txs) (fun j => if (offB (i : Int) (ks.getD j (0, 0)) && betZ (atP ps (i : Int)) (atP ps (ks.getD j (0, 0)).1) (atP ps (ks.getD j (0, 0)).2)) = true then some (Flt.on (i : Int) (ks.getD j (0, 0))) else none) FltV (fun σ => ∃ v2 v3 v5 v6 : Option V, σ = [some x, some (.ref a), v2, v3, some (.int (i : Int)), v5, v6]) ⟨_, _, _, _, rfl⟩
        (by rw [← hlt]; exact w_tup (hties _ _ _ e12 (ev_var rfl))) ?_ (fun h σ3 H3 s3 e3 => hN0 h σ3 H3 (by obtain ⟨_, _, _, _, rfl⟩ := s3; exact ⟨_, _, _, _, _, rfl⟩) e3) (fun r h v H3 e3 o => hR r h v H3 e3 o)
      rintro j z σ2 H3 H4 hj e3 ⟨v2, v3, v5, v6, rfl⟩ ⟨rfl, hz⟩ N2 hN2 hR2
      have e13 := e12.trans e3
      obtain ⟨q, hq, qz⟩ := htl.get j z hz
      have eq : ks.getD j (0, 0) = q := by rw [List.getD_eq_getElem?_getD, hq]; rfl
      have iq := inr j hj
      rw [eq] at iq hN2 hR2
      obtain ⟨i0, i1, i2, i3⟩ := iq
      have qz' := qz.up e13
      let σL : L2.St := [some x, some (.ref a), v2, v3, some (.int (i : Int)), some z, v6]
      obtain ⟨x1, w1, q1⟩ := ev_place (K := K) (σ := σL) (i := 0 + 1) rfl (ex_t e13 hx) (hp.up e13) (ev_var (i := 4) rfl) (by omega) (by omega)
      obtain ⟨x2, w2, q2⟩ := ev_place (K := K) (σ := σL) (i := 0 + 1) rfl (ex_t e13 hx) (hp.up e13) (ev_p0 (i := 5) rfl qz') i0 (by omega)
      obtain ⟨x3, w3, q3⟩ := ev_place (K := K) (σ := σL) (i := 0 + 1) rfl (ex_t e13 hx) (hp.up e13) (ev_p1 (i := 5) rfl qz') i2 (by omega)
      refine s_when (b := offB (i : Int) q && betZ (atP ps (i : Int)) (atP ps q.1) (atP ps q.2)) (et_and (et_test (ev_op (ev_var (i := 4) rfl) (ev_var (i := 5) rfl) (rv_offB qz'))) (fun _ => et_B (ev_call (ea_cons w1 (ea_cons w2 (ea_cons w3 ea_nil))) (sp_tri q1 q2 q3 (sm_at sm _) (sm_at sm _) (sm_at sm _))))) (fun hb H5 e5 => ?_)
        (fun hb H5 e5 => hN2 (if_neg (by rw [hb]; exact Bool.false_ne_true)) _ H5 ⟨_, _, _, _, rfl⟩ e5)
      exact s_retU (eu_tup (ea_cons ev_c (ea_cons (ev_var (i := 4) rfl) (ea_cons (ev_var (i := 5) rfl) ea_nil))) (by show 3 ≤ 100000; decide)) fun p H6 _ e6 h6 => hR2 _ (if_pos hb) _ H6 (e5.trans e6) ⟨p, z, rfl, h6, qz'.up (e5.trans e6)⟩
    rotate_left
    · intro r hr1 v H2 e2 o
      refine k v H2 (e1.trans e2) ?_
      rw [show fOn betZ ps ks m = some r from hr1]
      exact o
    intro hs1 σ2 H2 sh2 e2
    obtain ⟨v2, v3, v4, v5, v6, rfl⟩ := sh2
    have e12 := e1.trans e2
    rw [show fOn betZ ps ks m = none from hs1, Option.none_or] at k
    -- two ties that cross
    refine q_find (n := ks.length) (Y := YPair (fun i => some (.int (i : Nat))) (fun i => txs[i]?)) (fun i => firstN (ks.drop (i + 1)).length fun j => if (offB (ks.getD i (0, 0)).1 ((ks.drop (i + 1)).getD j (0, 0)) && (offB (ks.getD i (0, 0)).2 ((ks.drop (i + 1)).getD j (0, 0)) && crossZ ps (ks.getD i (0, 0)) ((ks.drop (i + 1)).getD j (0, 0)))) = true then some (Flt.cross (ks.getD i (0, 0)) ((ks.drop (i + 1)).getD j (0, 0))) else none) FltV Shape ⟨_, _, _, _, _, rfl⟩ (fun H3 e3 R hR => ?_) ?_ ?_ ?_
    · exact hties _ _ _ e12 (ev_var rfl) H3 e3 _ fun p H4 e4 hp4 => ⟨p, txs, rfl, hp4, hR _ H4 e4 (by rw [← hlt]; exact Walk.mono EnT.walk_enumT (fun H' e' => ex_t e' hp4) fun _ _ _ _ _ _ y => y)⟩
    · rintro i z σ' H3 H3' hi e3 ⟨v2, v3, v4, v5, v6, rfl⟩ ⟨T0, u, z1, rfl, hT0, rfl, hu1, hz1⟩ N hN0 hR
      cases hu1
      have e13 := e12.trans e3
      have eT : Ex H3 (upd H3 T0 (.tup [.int (i : Nat), z1])) := Ex.new hT0
      have e1T := e13.trans eT
      refine g_pair ?_
      obtain ⟨q, hq, qz⟩ := htl.get i z1 hz1
      have eq : ks.getD i (0, 0) = q := by rw [List.getD_eq_getElem?_getD, hq]; rfl
      have iq := inr i hi
      rw [eq] at iq hN0 hR
      have hdl : PrL H (txs.drop (i + 1)) (ks.drop (i + 1)) := htl.drop (i + 1)
      have hdlen := hdl.len
      generalize upd H3 T0 (.tup [V.int (i : Nat), z1]) = H3T at eT e1T
      refine s_find (n := (ks.drop (i + 1)).length) (Y := YAt (txs.drop (i + 1))) (fun j => if (offB q.1 ((ks.drop (i + 1)).getD j (0, 0)) && (offB q.2 ((ks.drop (i + 1)).getD j (0, 0)) && crossZ ps q ((ks.drop (i + 1)).getD j (0, 0)))) = true then some (Flt.cross q ((ks.drop (i + 1)).getD j (0, 0))) else none) FltV (fun σ => ∃ v2 v3 v4 : Option V, σ = [some x, some (.ref a), v2, v3, v4, some z1, some (.int (i : Int))]) ⟨_, _, _, rfl⟩
        ?_ ?_ (fun h σ3 H4 s3 e4 => hN0 h σ3 H4 (by obtain ⟨_, _, _, rfl⟩ := s3; exact ⟨_, _, _, _, _, rfl⟩) (eT.trans e4)) (fun r h v H4 e4 o => hR r h v H4 (eT.trans e4) o)
      · rw [← hdlen]
        refine w_tup (es_is (es_sl (hties _ _ _ e1T (ev_var rfl)) (eo_some (ev_op (ev_var rfl) ev_c rv_I0)) eo_none) ?_)
        exact cut_from txs (i + 1)
      · rintro j z2 σ2 H4 H5 hj e4 ⟨v2, v3, v4, rfl⟩ ⟨rfl, hz⟩ N2 hN2 hR2
        have e14 := e1T.trans e4
        obtain ⟨q2, hq2, qz2⟩ := hdl.get j z2 hz
        have eq2 : (ks.drop (i + 1)).getD j (0, 0) = q2 := by rw [List.getD_eq_getElem?_getD, hq2]; rfl
        have iq2 : InR m q2 := in_r ok (List.mem_of_mem_drop (List.mem_of_getElem? hq2))
        rw [eq2] at hN2 hR2
        have a1 := qz.up e14
        have a2 := qz2.up e14
        refine s_when (b := offB q.1 q2 && (offB q.2 q2 && crossZ ps q q2)) (et_and (et_test (ev_op (ev_p0 (i := 5) rfl a1) (ev_var (i := 3) rfl) (rv_offB a2))) (fun _ => et_and (et_test (ev_op (ev_p1 (i := 5) rfl a1) (ev_var (i := 3) rfl) (rv_offB a2))) (fun _ => et_B (ev_call (ea_cons (ev_var (i := 1) rfl) (ea_cons (ev_var (i := 5) rfl) (ea_cons (ev_var (i := 3) rfl) ea_nil)))
          (fun H6 e6 Q q' E => ⟨a, xs, ps, z1, z2, q, q2, rfl, ex_t (e14.trans e6) hx, hp.up (e14.trans e6), sm, a1.up e6, a2.up e6, by rw [hm]; exact iq, by rw [hm]; exact iq2, fun H7 e7 => q' H7 e7⟩))))) (fun hb H6 e6 => ?_)
          (fun hb H6 e6 => hN2 (if_neg (by rw [hb]; exact Bool.false_ne_true)) _ H6 ⟨_, _, _, rfl⟩ e6)
        exact s_retU (eu_tup (ea_cons ev_c (ea_cons (ev_var (i := 5) rfl) (ea_cons (ev_var (i := 3) rfl) ea_nil))) (by show 3 ≤ 100000; decide)) fun p H7 _ e7 h7 => hR2 _ (if_pos hb) _ H7 (e6.trans e7) ⟨p, z1, z2, rfl, h7, a1.up (e6.trans e7), a2.up (e6.trans e7)⟩
    · intro hs2 σ3 H3 sh3 e3
      refine s_ret ev_c (fun H4 e4 => k .non H4 ((e12.trans e3).trans e4) ?_)
      rw [show fCross (crossZ ps) ks = none from hs2]
      rfl
    · intro r hr1 v H3 e3 o
      refine k v H3 (e12.trans e3) ?_
      rw [show fCross (crossZ ps) ks = some r from hr1]
      exact o
end
end My
/-! _law_st_fault -/
namespace My
open PySem PySem.Spec PyProof.Rows L2 Evl
def meetZ (ps : List Pt) (p q : Int × Int) : Bool := meetQ (atP ps p.1) (atP ps p.2) (atP ps q.1) (atP ps q.2)
def fCrossL (ps : List Pt) (ks : List (Int × Int)) : Option Flt := firstN ks.length fun i => firstN ks.length fun j =>
  if (ltB (ks.getD i (0, 0)) (ks.getD j (0, 0)) && (offB (ks.getD i (0, 0)).1 (ks.getD j (0, 0)) && offB (ks.getD i (0, 0)).2 (ks.getD j (0, 0)))) = true then (if meetZ ps (ks.getD i (0, 0)) (ks.getD j (0, 0)) = true then some (.cross (ks.getD i (0, 0)) (ks.getD j (0, 0))) else none) else none
def faultL (m : Nat) (ks : List (Int × Int)) (ps : List Pt) : Option Flt := (fSame ps m).or ((fOn onZ ps ks m).or (fCrossL ps ks))
section
variable {P : Program} {w : World} {K : PySem.W.Frag} {mg : Str → Option Value} {base : Heap}
def spLFault (K : PySem.W.Frag) : Sp := fun vs H Q _ => ∃ (ta a : Addr) (m : Nat) (txs : List V) (ks : List (Int × Int)) (xs : List V) (ps : List Pt), vs = [.int (m : Int), .ref ta, .ref a] ∧ SqT K H ta txs ∧ PrL H txs ks ∧ OkNet (m : Int) ks ∧ SqT K H a xs ∧ PrL H xs ps ∧ ps.length = m ∧ (∀ p ∈ ps, Sm p) ∧ RetF (faultL m ks ps) H Q
theorem scLf : FnScope ["many", "ties", "places_here", "one", "other", "point", "tie"] ["many", "ties", "places_here"] (defScope s_law_st_fault) := ⟨rfl, rfl, rfl, by decide +kernel, rfl, by decide +kernel, by decide +kernel⟩
theorem sp_meet {H : Hp} {x y z u : V} {a b c d : Pt} (h1 : PairV H x a) (h2 : PairV H y b) (h3 : PairV H z c) (h4 : PairV H u d) (s1 : Sm a) (s2 : Sm b) (s3 : Sm c) (s4 : Sm d) : SpV spMeet [x, y, z, u] H (.bl (meetQ a b c d)) :=
  fun H1 e Q q E => ⟨x, y, z, u, a, b, c, d, rfl, h1.up e, h2.up e, h3.up e, h4.up e, s1, s2, s3, s4, fun H2 e2 => q H2 e2⟩
theorem ok_lfault {f fO fM fT : Addr} {fd fdO fdM fdT : FuncData} (F : Fun K "_law_st_fault" "_law_st_fault" s_law_st_fault f fd) (gr : mg "range" = none) (FO : Fun K "_law_st_on" "_law_st_on" s_law_st_on fO fdO) (mgO : mg "_law_st_on" = some (.ref fO))
    (FM : Fun K "_law_st_meet" "_law_st_meet" s_law_st_meet fM fdM) (mgM : mg "_law_st_meet" = some (.ref fM)) (FT : Fun K "_law_st_side" "_law_st_side" s_law_st_side fT fdT) (mgT : mg "_law_st_side" = some (.ref fT)) :
    FnOk P w K mg base CX0 4 f fd ["many", "ties", "places_here"] (spLFault K) := by
  have GO : FnOk P w K mg base CX0 2 fO fdO ["place", "one", "other"] (spTri fun p a b => .bl (onZ p a b)) := ok_on FO FT mgT
  have bO : Binds K fdO ["place", "one", "other"] [] := FO.binds (ps := ["place", "one", "other"]) fun _ _ _ _ _ _ us hl => match us, hl with | [_, _, _], _ => rfl
  have GM : FnOk P w K mg base CX0 3 fM fdM ["one", "other", "third", "fourth"] spMeet := ok_meet FM FO mgO FT mgT
  have bM : Binds K fdM ["one", "other", "third", "fourth"] [] := FM.binds (ps := ["one", "other", "third", "fourth"]) fun _ _ _ _ _ _ us hl => match us, hl with | [_, _, _, _], _ => rfl
  refine F.ok scLf (fun vs H Q E h => ?_) (fun cdv A outer s H vs Q E hr h => ?_)
  · obtain ⟨ta, a, m, txs, ks, xs, ps, rfl, _⟩ := h
    rfl
  · obtain ⟨ta, a, m, txs, ks, xs, ps, rfl, htx, htl, ok, hx, hp, hm, sm, k⟩ := h
    have hu := hr.units
    have hu0 := hr.units0
    have hr2 := hr.mono (show 2 ≤ 3 by decide)
    refine ⟨_, pss_cons (ps_for PassesOwn.never rfl (pi_range1 (by rfl) gr (pa_cons (pv 0) pa_nil)) (pg_name (i := 3) scLf.nd rfl (Or.inl rfl))
        (pss_one (ps_for PassesOwn.never rfl (pi_range2 (by rfl) gr (pa_cons (pe_op op_add (pv 3) pe_int) (pa_cons (pv 0) pa_nil))) (pg_name (i := 4) scLf.nd rfl (Or.inl rfl))
          (pss_one (ps_if (pt_cmpR (op_eqD hu) (pe_ix ix_tup (pv 2) (pv 3) (fun _ _ => rfl)) (pe_ix ix_tup (pv 2) (pv 4) (fun _ _ => rfl)) (nomark _)) (pss_one (ps_ret (pe_tup (pa_cons pe_str (pa_cons (pv 3) (pa_cons (pv 4) pa_nil)))))) pss_nil)))))
      (pss_cons (ps_for PassesOwn.never rfl (pi_range1 (by rfl) gr (pa_cons (pv 0) pa_nil)) (pg_name (i := 5) scLf.nd rfl (Or.inl rfl))
        (pss_one (ps_for PassesOwn.never rfl (pi_tup (pv 1)) (pg_name (i := 6) scLf.nd rfl (Or.inl rfl))
          (pss_one (ps_if (PW.pt (pw_and (pt_cmpR op_notIn_seq (pv 5) (pv 6) (by rfl)) (pw_and1 (pt_val (pe_call GO hr2 (by rfl) mgO FO.kp bO .nil pass0 (pa_cons (pe_ix ix_tup (pv 2) (pv 5) (fun _ _ => rfl)) (pa_cons (pe_ix ix_tup (pv 2) (pe_ix ix_tup (pv 6) pe_int (fun _ _ => rfl)) (fun _ _ => rfl)) (pa_cons (pe_ix ix_tup (pv 2) (pe_ix ix_tup (pv 6) pe_int (fun _ _ => rfl)) (fun _ _ => rfl)) pa_nil))))))))
            (pss_one (ps_ret (pe_tup (pa_cons pe_str (pa_cons (pv 5) (pa_cons (pv 6) pa_nil)))))) pss_nil)))))
      (pss_cons (ps_for PassesOwn.never rfl (pi_tup (pv 1)) (pg_name (i := 6) scLf.nd rfl (Or.inl rfl))
        (pss_one (ps_for PassesOwn.never rfl (pi_tup (pv 1)) (pg_name (i := 4) scLf.nd rfl (Or.inl rfl))
          (pss_one (ps_if (PW.pt (pw_and (pt_cmpR (op_ltT hu0) (pv 6) (pv 4) (nomark _)) (pw_and (pt_cmpR op_notIn_seq (pe_ix ix_tup (pv 6) pe_int (fun _ _ => rfl)) (pv 4) (by rfl)) (pw_and1 (pt_cmpR op_notIn_seq (pe_ix ix_tup (pv 6) pe_int (fun _ _ => rfl)) (pv 4) (by rfl))))))
            (pss_one (ps_if (pt_val (pe_call GM hr (by rfl) mgM FM.kp bM .nil pass0 (pa_cons (pe_ix ix_tup (pv 2) (pe_ix ix_tup (pv 6) pe_int (fun _ _ => rfl)) (fun _ _ => rfl)) (pa_cons (pe_ix ix_tup (pv 2) (pe_ix ix_tup (pv 6) pe_int (fun _ _ => rfl)) (fun _ _ => rfl))
                (pa_cons (pe_ix ix_tup (pv 2) (pe_ix ix_tup (pv 4) pe_int (fun _ _ => rfl)) (fun _ _ => rfl)) (pa_cons (pe_ix ix_tup (pv 2) (pe_ix ix_tup (pv 4) pe_int (fun _ _ => rfl)) (fun _ _ => rfl)) pa_nil)))))) (pss_one (ps_ret (pe_tup (pa_cons pe_str (pa_cons (pv 6) (pa_cons (pv 4) pa_nil)))))) pss_nil)) pss_nil)))))
      (pss_one (ps_ret pe_non)))), ?_⟩
    have m0 := ok.lo
    have m24 := ok.hi
    have hlt := htl.len
    have hfew := ok.few
    have inr : ∀ j, j < ks.length → InR m (ks.getD j (0, 0)) := fun j hj => by
      rw [List.getD_eq_getElem?_getD, List.getElem?_eq_getElem hj]
      exact in_r ok (List.getElem_mem hj)
    let Shape : L2.St → Prop := fun σ => ∃ v3 v4 v5 v6 : Option V, σ = [some (.int (m : Int)), some (.ref ta), some (.ref a), v3, v4, v5, v6]
    unfold faultL at k
    -- two points at one place
    refine q_find (n := m) (fun i => firstN ((m : Int) - ((i : Int) + 1)).toNat fun t => if atP ps (i : Int) = atP ps ((i : Int) + 1 + (t : Int)) then some (Flt.same (i : Int) ((i : Int) + 1 + (t : Int))) else none) FltV Shape ⟨_, _, _, _, rfl⟩ (w_rng1 (ev_var rfl) (by omega)) ?_ ?_ ?_
    · rintro i z σ' H1 H2 hi e1 ⟨v3, v4, v5, v6, rfl⟩ ⟨rfl, rfl⟩ N hN0 hR
      refine s_find (Y := YFn fun t => .int ((i : Int) + 1 + (t : Int))) (fun t => if atP ps (i : Int) = atP ps ((i : Int) + 1 + (t : Int)) then some (Flt.same (i : Int) ((i : Int) + 1 + (t : Int))) else none) FltV (fun σ => ∃ v4 v5 v6 : Option V, σ = [some (.int (m : Int)), some (.ref ta), some (.ref a), some (.int (i : Int)), v4, v5, v6]) ⟨_, _, _, rfl⟩
        (w_rng2 (ev_op (ev_var rfl) ev_c rv_I0) (ev_var rfl) (by omega)) ?_ (fun h σ3 H3 s3 e3 => hN0 h σ3 H3 (by obtain ⟨_, _, _, rfl⟩ := s3; exact ⟨_, _, _, _, rfl⟩) e3) (fun r h v H3 e3 o => hR r h v H3 e3 o)
      rintro t z σ2 H3 H4 ht e3 ⟨v4, v5, v6, rfl⟩ ⟨rfl, rfl⟩ N2 hN2 hR2
      have e13 := e1.trans e3
      obtain ⟨x1, w1, q1⟩ := ev_place (K := K) (σ := [some (.int (m : Int)), some (.ref ta), some (.ref a), some (.int (i : Int)), some (.int ((i : Int) + 1 + (t : Int))), v5, v6]) (i := 1 + 1) rfl (ex_t e13 hx) (hp.up e13) (ev_var (i := 3) rfl) (by omega) (by omega)
      obtain ⟨x2, w2, q2⟩ := ev_place (K := K) (σ := [some (.int (m : Int)), some (.ref ta), some (.ref a), some (.int (i : Int)), some (.int ((i : Int) + 1 + (t : Int))), v5, v6]) (i := 1 + 1) rfl (ex_t e13 hx) (hp.up e13) (ev_var (i := 4) rfl) (by omega) (by omega)
      refine s_when (et_test (ev_op w1 w2 (rv_eqP q1 q2))) (fun hb H5 e5 => ?_) (fun hb H5 e5 => hN2 (if_neg (of_decide_eq_false hb)) _ H5 ⟨_, _, _, rfl⟩ e5)
      exact s_retU (eu_tup (ea_cons ev_c (ea_cons (ev_var rfl) (ea_cons (ev_var rfl) ea_nil))) (by show 3 ≤ 100000; decide)) fun p H6 _ e6 h6 => hR2 _ (if_pos (of_decide_eq_true hb)) _ H6 (e5.trans e6) ⟨p, rfl, h6⟩
    rotate_left
    · intro r hr1 v H1 e1 o
      refine k v H1 e1 ?_
      rw [show fSame ps m = some r from hr1]
      exact o
    intro hs0 σ1 H1 sh1 e1
    obtain ⟨v3, v4, v5, v6, rfl⟩ := sh1
    rw [show fSame ps m = none from hs0, Option.none_or] at k
    -- a point on a tie
    refine q_find (n := m) (fun p => firstN ks.length fun j => if (offB (p : Int) (ks.getD j (0, 0)) && onZ (atP ps (p : Int)) (atP ps (ks.getD j (0, 0)).1) (atP ps (ks.getD j (0, 0)).2)) = true then some (Flt.on (p : Int) (ks.getD j (0, 0))) else none) FltV Shape ⟨_, _, _, _, rfl⟩ (w_rng1 (ev_var rfl) (by omega)) ?_ ?_ ?_
    · rintro i z σ' H2 H2' hi e2 ⟨v3, v4, v5, v6, rfl⟩ ⟨rfl, rfl⟩ N hN0 hR
      have e12 := e1.trans e2
      refine s_find (n := ks.length) (Y := YAt txs) (fun j => if (offB (i : Int) (ks.getD j (0, 0)) && onZ (atP ps (i : Int)) (atP ps (ks.getD j (0, 0)).1) (atP ps (ks.getD j (0, 0)).2)) = true then some (Flt.on (i : Int) (ks.getD j (0, 0))) else none) FltV (fun σ => ∃ v3 v4 v6 : Option V, σ = [some (.int (m : Int)), some (.ref ta), some (.ref a), v3, v4, some (.int (i : Int)), v6]) ⟨_, _, _, rfl⟩
        (by rw [← hlt]; exact w_tup (es_var rfl (ex_t e12 htx))) ?_ (fun h σ3 H3 s3 e3 => hN0 h σ3 H3 (by obtain ⟨_, _, _, rfl⟩ := s3; exact ⟨_, _, _, _, rfl⟩) e3) (fun r h v H3 e3 o => hR r h v H3 e3 o)
      rintro j z σ2 H3 H4 hj e3 ⟨v3, v4, v6, rfl⟩ ⟨rfl, hz⟩ N2 hN2 hR2
      have e13 := e12.trans e3
      obtain ⟨q, hq, qz⟩ := htl.get j z hz
      have eq : ks.getD j (0, 0) = q := by rw [List.getD_eq_getElem?_getD, hq]; rfl
      have iq := inr j hj
      rw [eq] at iq hN2 hR2
      obtain ⟨i0, i1, i2, i3⟩ := iq
      have qz' := qz.up e13
      let σL : L2.St := [some (.int (m : Int)), some (.ref ta), some (.ref a), v3, v4, some (.int (i : Int)), some z]
      obtain ⟨x1, w1, q1⟩ := ev_place (K := K) (σ := σL) (i := 1 + 1) rfl (ex_t e13 hx) (hp.up e13) (ev_var (i := 5) rfl) (by omega) (by omega)
      obtain ⟨x2, w2, q2⟩ := ev_place (K := K) (σ := σL) (i := 1 + 1) rfl (ex_t e13 hx) (hp.up e13) (ev_p0 (i := 6) rfl qz') i0 (by omega)
      obtain ⟨x3, w3, q3⟩ := ev_place (K := K) (σ := σL) (i := 1 + 1) rfl (ex_t e13 hx) (hp.up e13) (ev_p1 (i := 6) rfl qz') i2 (by omega)
      refine s_when (b := offB (i : Int) q && onZ (atP ps (i : Int)) (atP ps q.1) (atP ps q.2)) (et_and (et_test (ev_op (ev_var (i := 5) rfl) (ev_var (i := 6) rfl) (rv_offB qz'))) (fun _ => et_B (ev_call (ea_cons w1 (ea_cons w2 (ea_cons w3 ea_nil))) (sp_tri q1 q2 q3 (sm_at sm _) (sm_at sm _) (sm_at sm _))))) (fun hb H5 e5 => ?_)
        (fun hb H5 e5 => hN2 (if_neg (by rw [hb]; exact Bool.false_ne_true)) _ H5 ⟨_, _, _, rfl⟩ e5)
      exact s_retU (eu_tup (ea_cons ev_c (ea_cons (ev_var (i := 5) rfl) (ea_cons (ev_var (i := 6) rfl) ea_nil))) (by show 3 ≤ 100000; decide)) fun p H6 _ e6 h6 => hR2 _ (if_pos hb) _ H6 (e5.trans e6) ⟨p, z, rfl, h6, qz'.up (e5.trans e6)⟩
    rotate_left
    · intro r hr1 v H2 e2 o
      refine k v H2 (e1.trans e2) ?_
      rw [show fOn onZ ps ks m = some r from hr1]
      exact o
    intro hs1 σ2 H2 sh2 e2
    obtain ⟨v3, v4, v5, v6, rfl⟩ := sh2
    have e12 := e1.trans e2
    rw [show fOn onZ ps ks m = none from hs1, Option.none_or] at k
    -- two ties that meet
    refine q_find (n := ks.length) (Y := YAt txs) (fun i => firstN ks.length fun j => if (ltB (ks.getD i (0, 0)) (ks.getD j (0, 0)) && (offB (ks.getD i (0, 0)).1 (ks.getD j (0, 0)) && offB (ks.getD i (0, 0)).2 (ks.getD j (0, 0)))) = true then (if meetZ ps (ks.getD i (0, 0)) (ks.getD j (0, 0)) = true then some (Flt.cross (ks.getD i (0, 0)) (ks.getD j (0, 0))) else none) else none) FltV Shape ⟨_, _, _, _, rfl⟩
      (by rw [← hlt]; exact w_tup (es_var rfl (ex_t e12 htx))) ?_ ?_ ?_
    · rintro i z1 σ' H3 H3' hi e3 ⟨v3, v4, v5, v6, rfl⟩ ⟨rfl, hz1⟩ N hN0 hR
      have e13 := e12.trans e3
      obtain ⟨q, hq, qz⟩ := htl.get i z1 hz1
      have eq : ks.getD i (0, 0) = q := by rw [List.getD_eq_getElem?_getD, hq]; rfl
      have iq := inr i hi
      rw [eq] at iq hN0 hR
      refine s_find (n := ks.length) (Y := YAt txs) (fun j => if (ltB q (ks.getD j (0, 0)) && (offB q.1 (ks.getD j (0, 0)) && offB q.2 (ks.getD j (0, 0)))) = true then (if meetZ ps q (ks.getD j (0, 0)) = true then some (Flt.cross q (ks.getD j (0, 0))) else none) else none) FltV (fun σ => ∃ v3 v4 v5 : Option V, σ = [some (.int (m : Int)), some (.ref ta), some (.ref a), v3, v4, v5, some z1]) ⟨_, _, _, rfl⟩
        (by rw [← hlt]; exact w_tup (es_var rfl (ex_t e13 htx))) ?_ (fun h σ3 H4 s3 e4 => hN0 h σ3 H4 (by obtain ⟨_, _, _, rfl⟩ := s3; exact ⟨_, _, _, _, rfl⟩) e4) (fun r h v H4 e4 o => hR r h v H4 e4 o)
      rintro j z2 σ2 H4 H5 hj e4 ⟨v3, v4, v5, rfl⟩ ⟨rfl, hz2⟩ N2 hN2 hR2
      have e14 := e13.trans e4
      obtain ⟨q2, hq2, qz2⟩ := htl.get j z2 hz2
      have eq2 : ks.getD j (0, 0) = q2 := by rw [List.getD_eq_getElem?_getD, hq2]; rfl
      have iq2 := inr j hj
      rw [eq2] at iq2 hN2 hR2
      have a1 := qz.up e14
      have a2 := qz2.up e14
      refine s_when (b := ltB q q2 && (offB q.1 q2 && offB q.2 q2)) (et_and (et_test (ev_op (ev_var (i := 6) rfl) (ev_var (i := 4) rfl) (rv_ltP a1 a2))) (fun _ => et_and (et_test (ev_op (ev_p0 (i := 6) rfl a1) (ev_var (i := 4) rfl) (rv_offB a2))) (fun _ => et_test (ev_op (ev_p1 (i := 6) rfl a1) (ev_var (i := 4) rfl) (rv_offB a2))))) (fun hb H6 e6 => ?_)
        (fun hb H6 e6 => hN2 (if_neg (by rw [hb]; exact Bool.false_ne_true)) _ H6 ⟨_, _, _, rfl⟩ e6)
      rw [if_pos hb] at hN2 hR2
      have e16 := e14.trans e6
      obtain ⟨i0, i1, i2, i3⟩ := iq
      obtain ⟨j0, j1, j2, j3⟩ := iq2
      let σL : L2.St := [some (.int (m : Int)), some (.ref ta), some (.ref a), v3, some z2, v5, some z1]
      obtain ⟨x1, w1, q1⟩ := ev_place (K := K) (σ := σL) (i := 1 + 1) rfl (ex_t e16 hx) (hp.up e16) (ev_p0 (i := 6) rfl (a1.up e6)) i0 (by omega)
      obtain ⟨x2, w2, q2'⟩ := ev_place (K := K) (σ := σL) (i := 1 + 1) rfl (ex_t e16 hx) (hp.up e16) (ev_p1 (i := 6) rfl (a1.up e6)) i2 (by omega)
      obtain ⟨x3, w3, q3⟩ := ev_place (K := K) (σ := σL) (i := 1 + 1) rfl (ex_t e16 hx) (hp.up e16) (ev_p0 (i := 4) rfl (a2.up e6)) j0 (by omega)
      obtain ⟨x4, w4, q4⟩ := ev_place (K := K) (σ := σL) (i := 1 + 1) rfl (ex_t e16 hx) (hp.up e16) (ev_p1 (i := 4) rfl (a2.up e6)) j2 (by omega)
      refine s_when (b := meetZ ps q q2) (et_B (ev_call (ea_cons w1 (ea_cons w2 (ea_cons w3 (ea_cons w4 ea_nil)))) (sp_meet q1 q2' q3 q4 (sm_at sm _) (sm_at sm _) (sm_at sm _) (sm_at sm _)))) (fun hb2 H7 e7 => ?_)
        (fun hb2 H7 e7 => hN2 (if_neg (by rw [hb2]; exact Bool.false_ne_true)) _ H7 ⟨_, _, _, rfl⟩ (e6.trans e7))
      exact s_retU (eu_tup (ea_cons ev_c (ea_cons (ev_var (i := 6) rfl) (ea_cons (ev_var (i := 4) rfl) ea_nil))) (by show 3 ≤ 100000; decide)) fun p H8 _ e8 h8 => hR2 _ (if_pos hb2) _ H8 ((e6.trans e7).trans e8) ⟨p, z1, z2, rfl, h8, a1.up ((e6.trans e7).trans e8), a2.up ((e6.trans e7).trans e8)⟩
    · intro hs2 σ3 H3 sh3 e3
      refine s_ret ev_c (fun H4 e4 => k .non H4 ((e12.trans e3).trans e4) ?_)
      rw [show fCrossL ps ks = none from hs2]
      rfl
    · intro r hr1 v H3 e3 o
      refine k v H3 (e12.trans e3) ?_
      rw [show fCrossL ps ks = some r from hr1]
      exact o
end
end My
/-! the plain law: both ways of looking for a fault find the same -/
namespace My
open PySem L2 Evl
theorem side_turn (a b c : Pt) : sideZ a b c = turnZ a b c := by
  unfold sideZ turnZ
  grind
theorem le_mul {x lo hi : Int} : (x - lo) * (x - hi) ≤ 0 ↔ (min lo hi ≤ x ∧ x ≤ max lo hi) := by
  constructor
  · intro h
    by_cases h1 : x < min lo hi
    · have := Int.mul_pos_of_neg_of_neg (show x - lo < 0 by omega) (show x - hi < 0 by omega)
      omega
    · by_cases h2 : max lo hi < x
      · have := Int.mul_pos (show 0 < x - lo by omega) (show 0 < x - hi by omega)
        omega
      · omega
  · rintro ⟨h1, h2⟩
    by_cases h : lo ≤ hi
    · exact Int.mul_nonpos_of_nonneg_of_nonpos (by omega) (by omega)
    · exact Int.mul_nonpos_of_nonpos_of_nonneg (by omega) (by omega)
theorem on_bet (p a b : Pt) : onZ p a b = betZ p a b := by
  unfold onZ betZ
  rw [side_turn, decide_eq_decide.mpr (le_mul (x := p.1) (lo := a.1) (hi := b.1)), decide_eq_decide.mpr (le_mul (x := p.2) (lo := a.2) (hi := b.2)), Bool.decide_and, Bool.decide_and]
theorem turn4 (a b c d : Pt) : turnZ c d b = turnZ c d a + turnZ a b c - turnZ a b d := by
  unfold turnZ
  grind
/-- between the ends: w = t u, 0 ≤ t ≤ 1 -/
theorem mid {s t w lo hi : Int} (hs : 0 < s) (h : s * (w - lo) = (hi - lo) * t) (t0 : 0 ≤ t) (t1 : t ≤ s) : min lo hi ≤ w ∧ w ≤ max lo hi := by
  by_cases hh : lo ≤ hi
  · have e1 : 0 ≤ (hi - lo) * t := Int.mul_nonneg (by omega) t0
    have e2 : (hi - lo) * t ≤ (hi - lo) * s := Int.mul_le_mul_of_nonneg_left t1 (by omega)
    have e3 : 0 ≤ w - lo := by
      by_cases z : 0 ≤ w - lo
      · exact z
      · have := Int.mul_neg_of_pos_of_neg hs (show w - lo < 0 by omega)
        omega
    have e4 : w - lo ≤ hi - lo := by
      by_cases z : w - lo ≤ hi - lo
      · exact z
      · have q : s * (hi - lo) < s * (w - lo) := Int.mul_lt_mul_of_pos_left (by omega) hs
        rw [Int.mul_comm s (hi - lo)] at q
        omega
    omega
  · have e1 : (hi - lo) * t ≤ 0 := Int.mul_nonpos_of_nonpos_of_nonneg (by omega) t0
    have e2 : (hi - lo) * s ≤ (hi - lo) * t := Int.mul_le_mul_of_nonpos_left (by omega) t1
    have e3 : w - lo ≤ 0 := by
      by_cases z : w - lo ≤ 0
      · exact z
      · have := Int.mul_pos hs (show 0 < w - lo by omega)
        omega
    have e4 : hi - lo ≤ w - lo := by
      by_cases z : hi - lo ≤ w - lo
      · exact z
      · have q : s * (w - lo) < s * (hi - lo) := Int.mul_lt_mul_of_pos_left (by omega) hs
        rw [Int.mul_comm s (hi - lo)] at q
        omega
    omega
theorem bet_of {p a b : Pt} (h : turnZ a b p = 0) (h1 : min a.1 b.1 ≤ p.1 ∧ p.1 ≤ max a.1 b.1) (h2 : min a.2 b.2 ≤ p.2 ∧ p.2 ≤ max a.2 b.2) : betZ p a b = true := by
  unfold betZ
  rw [decide_eq_true h, decide_eq_true h1.1, decide_eq_true h1.2, decide_eq_true h2.1, decide_eq_true h2.2]
  rfl
theorem key {a b c d : Pt} (h1 : (decide (0 < turnZ a b c) != decide (0 < turnZ a b d)) = true) (h2 : (decide (0 < turnZ c d a) != decide (0 < turnZ c d b)) = true) (hc : betZ c a b = false) (hd : betZ d a b = false) :
    (0 < turnZ a b c ∧ turnZ a b d < 0) ∨ (turnZ a b c < 0 ∧ 0 < turnZ a b d) := by
  have e4 := turn4 a b c d
  have i1 : (0 < turnZ a b c ∧ turnZ a b d ≤ 0) ∨ (turnZ a b c ≤ 0 ∧ 0 < turnZ a b d) := by
    by_cases x : 0 < turnZ a b c <;> by_cases y : 0 < turnZ a b d <;> simp [x, y] at h1 <;> omega
  have i2 : (0 < turnZ c d a ∧ turnZ c d b ≤ 0) ∨ (turnZ c d a ≤ 0 ∧ 0 < turnZ c d b) := by
    by_cases x : 0 < turnZ c d a <;> by_cases y : 0 < turnZ c d b <;> simp [x, y] at h2 <;> omega
  rcases i1 with ⟨p, q⟩ | ⟨p, q⟩
  · by_cases z : turnZ a b d = 0
    · -- d on the line of a and b
      exfalso
      have hz : (b.1 - a.1) * (d.2 - a.2) - (b.2 - a.2) * (d.1 - a.1) = 0 := z
      have m1 : turnZ a b c * (d.1 - a.1) = (b.1 - a.1) * (-turnZ c d a) := by
        unfold turnZ
        grind
      have m2 : turnZ a b c * (d.2 - a.2) = (b.2 - a.2) * (-turnZ c d a) := by
        unfold turnZ
        grind
      have t0 : 0 ≤ -turnZ c d a := by omega
      have t1 : -turnZ c d a ≤ turnZ a b c := by omega
      rw [bet_of z (mid p m1 t0 t1) (mid p m2 t0 t1)] at hd
      cases hd
    · exact .inl ⟨p, by omega⟩
  · by_cases z : turnZ a b c = 0
    · exfalso
      have hz : (b.1 - a.1) * (c.2 - a.2) - (b.2 - a.2) * (c.1 - a.1) = 0 := z
      have m1 : turnZ a b d * (c.1 - a.1) = (b.1 - a.1) * turnZ c d a := by
        unfold turnZ
        grind
      have m2 : turnZ a b d * (c.2 - a.2) = (b.2 - a.2) * turnZ c d a := by
        unfold turnZ
        grind
      have t0 : 0 ≤ turnZ c d a := by omega
      have t1 : turnZ c d a ≤ turnZ a b d := by omega
      rw [bet_of z (mid q m1 t0 t1) (mid q m2 t0 t1)] at hc
      cases hc
    · exact .inr ⟨by omega, q⟩
theorem sgn_pos {x : Int} (h : 0 < x) : sgn x = 1 := if_pos h
theorem sgn_neg {x : Int} (h : x < 0) : sgn x = -1 := by
  unfold sgn
  rw [if_neg (by omega), if_pos h]
theorem sgn_opp {x y : Int} : sgn x * sgn y < 0 ↔ (0 < x ∧ y < 0) ∨ (x < 0 ∧ 0 < y) := by
  have c : ∀ x : Int, (0 < x ∧ sgn x = 1) ∨ (x < 0 ∧ sgn x = -1) ∨ (x = 0 ∧ sgn x = 0) := fun x => by
    by_cases h : 0 < x
    · exact .inl ⟨h, sgn_pos h⟩
    · by_cases h' : x < 0
      · exact .inr (.inl ⟨h', sgn_neg h'⟩)
      · have e : x = 0 := by omega
        subst e
        exact .inr (.inr ⟨rfl, rfl⟩)
  rcases c x with ⟨a, e⟩ | ⟨a, e⟩ | ⟨a, e⟩ <;> rcases c y with ⟨b, f⟩ | ⟨b, f⟩ | ⟨b, f⟩ <;> rw [e, f] <;> omega
theorem cross_meet {a b c d : Pt} (hc : betZ c a b = false) (hd : betZ d a b = false) (ha : betZ a c d = false) (hb : betZ b c d = false) : crossQ a b c d = meetQ a b c d := by
  unfold crossQ meetQ
  rw [on_bet, on_bet, on_bet, hc, hd, ha, side_turn, side_turn, side_turn, side_turn, Bool.or_false, Bool.or_false, Bool.false_or]
  rw [Bool.eq_iff_iff, Bool.and_eq_true, Bool.and_eq_true, decide_eq_true_eq, decide_eq_true_eq, sgn_opp, sgn_opp]
  constructor
  · rintro ⟨h1, h2⟩
    constructor
    · rcases h1 with ⟨x, y⟩ | ⟨x, y⟩
      · rw [decide_eq_true x, decide_eq_false (by omega)]
        rfl
      · rw [decide_eq_true y, decide_eq_false (by omega)]
        rfl
    · rcases h2 with ⟨x, y⟩ | ⟨x, y⟩
      · rw [decide_eq_true x, decide_eq_false (by omega)]
        rfl
      · rw [decide_eq_true y, decide_eq_false (by omega)]
        rfl
  · rintro ⟨h1, h2⟩
    exact ⟨key h1 h2 hc hd, key h2 h1 ha hb⟩
/-! ### the two searches -/
theorem firstN_of_none {ρ : Type} {n : Nat} {f : Nat → Option ρ} (h : firstN n f = none) : ∀ i < n, f i = none := fun i hi => List.findSome?_eq_none_iff.mp h i (List.mem_range.mpr hi)
theorem firstN_congr {ρ : Type} {n : Nat} {f g : Nat → Option ρ} (h : ∀ i < n, f i = g i) : firstN n f = firstN n g := by
  unfold firstN
  have : ∀ l : List Nat, (∀ i ∈ l, f i = g i) → l.findSome? f = l.findSome? g := by
    intro l
    induction l with
    | nil => exact fun _ => rfl
    | cons a r ih =>
      intro h
      rw [List.findSome?_cons, List.findSome?_cons, h a List.mem_cons_self, ih fun i hi => h i (List.mem_cons_of_mem _ hi)]
  exact this _ fun i hi => h i (List.mem_range.mp hi)
theorem firstN_shift {ρ : Type} {k : Nat} : ∀ {n : Nat} {f : Nat → Option ρ}, k ≤ n → (∀ j < k, f j = none) → firstN n f = firstN (n - k) fun t => f (k + t) := by
  intro n f hk h
  unfold firstN
  have e : List.range n = List.range k ++ (List.range (n - k)).map (k + ·) := by
    conv => lhs; rw [show n = k + (n - k) by omega]
    rw [List.range_add]
  rw [e, List.findSome?_append, List.findSome?_eq_none_iff.mpr fun i hi => h i (List.mem_range.mp hi), Option.none_or, List.findSome?_map]
  rfl
theorem asc_lt : ∀ {ks : List (Int × Int)}, asc ks = true → ks.Pairwise (fun p q => ltB p q = true)
  | [], _ => List.Pairwise.nil
  | [_], _ => List.pairwise_singleton _ _
  | p :: q :: r, h => by
    have h' : (ltB p q && asc (q :: r)) = true := h
    obtain ⟨h1, h2⟩ := Bool.and_eq_true_iff.mp h'
    have ih := asc_lt h2
    refine List.pairwise_cons.mpr ⟨fun x hx => ?_, ih⟩
    rcases List.mem_cons.mp hx with e | hx
    · rw [e]
      exact h1
    · have h3 := (List.pairwise_cons.mp ih).1 x hx
      have a := ltB_iff.mp h1
      have b := ltB_iff.mp h3
      exact ltB_iff.mpr (by omega)
theorem fault_eq {m : Nat} {ks : List (Int × Int)} {ps : List Pt} (ok : OkNet (m : Int) ks) : faultP m ks ps = faultL m ks ps := by
  unfold faultP faultL
  have e1 : fOn betZ ps ks m = fOn onZ ps ks m := by
    have : betZ = onZ := funext fun p => funext fun a => funext fun b => (on_bet p a b).symm
    rw [this]
  rw [e1]
  congr 1
  cases h2 : fOn onZ ps ks m with
  | some r => rfl
  | none =>
    rw [Option.none_or, Option.none_or]
    have off : ∀ (p : Nat) (t : Int × Int), p < m → t ∈ ks → offB (p : Int) t = true → betZ (atP ps (p : Int)) (atP ps t.1) (atP ps t.2) = false := fun p t hp ht ho => by
      obtain ⟨j, hj, e⟩ := List.getElem_of_mem ht
      have z := firstN_of_none (firstN_of_none h2 p hp) j hj
      have e' : ks.getD j (0, 0) = t := by rw [List.getD_eq_getElem?_getD, List.getElem?_eq_getElem hj, e]; rfl
      rw [e', ho, Bool.true_and, on_bet] at z
      cases q : betZ (atP ps (p : Int)) (atP ps t.1) (atP ps t.2) with
      | false => rfl
      | true =>
        rw [q] at z
        cases z
    have pw := asc_lt ok.asc
    refine firstN_congr fun i hi => ?_
    have gi : ks.getD i (0, 0) = ks[i] := by rw [List.getD_eq_getElem?_getD, List.getElem?_eq_getElem hi]; rfl
    refine Eq.symm (Eq.trans (firstN_shift (k := i + 1) (by omega) fun j hj => ?_) ?_)
    · have hj' : j < ks.length := by omega
      have gj : ks.getD j (0, 0) = ks[j] := by rw [List.getD_eq_getElem?_getD, List.getElem?_eq_getElem hj']; rfl
      refine if_neg ?_
      have nl : ltB (ks.getD i (0, 0)) (ks.getD j (0, 0)) = false := by
        rw [gi, gj]
        by_cases e : j = i
        · subst e
          exact ltB_no.mpr (by omega)
        · have q := ltB_iff.mp (List.pairwise_iff_getElem.mp pw j i hj' hi (by omega))
          exact ltB_no.mpr (by omega)
      rw [nl, Bool.false_and]
      exact Bool.false_ne_true
    · rw [List.length_drop]
      refine firstN_congr fun t ht => ?_
      have hj : i + 1 + t < ks.length := by omega
      have gj : ks.getD (i + 1 + t) (0, 0) = ks[i + 1 + t] := by rw [List.getD_eq_getElem?_getD, List.getElem?_eq_getElem hj]; rfl
      have gd : (ks.drop (i + 1)).getD t (0, 0) = ks[i + 1 + t] := by rw [List.getD_eq_getElem?_getD, List.getElem?_drop, List.getElem?_eq_getElem hj]; rfl
      rw [gi, gj, gd, List.pairwise_iff_getElem.mp pw i (i + 1 + t) hi hj (by omega), Bool.true_and]
      have mi : ks[i] ∈ ks := List.getElem_mem hi
      have mj : ks[i + 1 + t] ∈ ks := List.getElem_mem hj
      generalize ks[i] = p at mi
      generalize ks[i + 1 + t] = q at mj
      have hp := ok.tie p mi
      have hq := ok.tie q mj
      cases o1 : offB p.1 q with
      | false => rfl
      | true =>
        cases o2 : offB p.2 q with
        | false => rfl
        | true =>
          rw [Bool.true_and, Bool.true_and, Bool.true_and, if_pos rfl]
          have sw : offB q.1 p = true ∧ offB q.2 p = true := by
            unfold offB at o1 o2 ⊢
            simp only [Bool.not_eq_true', Bool.or_eq_false_iff, beq_eq_false_iff_ne] at o1 o2 ⊢
            exact ⟨⟨fun e => o1.1 e.symm, fun e => o2.1 e.symm⟩, fun e => o1.2 e.symm, fun e => o2.2 e.symm⟩
          have nat : ∀ x : Int, 0 ≤ x → ((x.toNat : Nat) : Int) = x := fun x hx => by omega
          have b1 := off p.1.toNat q (by omega) mj (by rw [nat _ hp.1]; exact o1)
          have b2 := off p.2.toNat q (by omega) mj (by rw [nat _ (by omega)]; exact o2)
          have b3 := off q.1.toNat p (by omega) mi (by rw [nat _ hq.1]; exact sw.1)
          have b4 := off q.2.toNat p (by omega) mi (by rw [nat _ (by omega)]; exact sw.2)
          rw [nat _ hp.1] at b1
          rw [nat _ (by omega)] at b2
          rw [nat _ hq.1] at b3
          rw [nat _ (by omega)] at b4
          rw [show crossZ ps p q = meetZ ps p q from cross_meet b3 b4 b1 b2]
end My
/-! is_place, are_places, need_places, fault_of, is_drawing -/
namespace My
open PySem PySem.Spec PyProof.Rows L2 Evl
/-- no tuple -/
def NoTup (K : PySem.W.Frag) (H : Hp) (x : V) : Prop := ∀ H', Ex H H' → ∃ t, TyX K H' x t ∧ PySem.W.kitOne K t (.type "tuple") = some false
/-- an item as is_place sees it -/
inductive ItV (K : PySem.W.Frag) (H : Hp) : V → Option (List V) → Prop
  | tup {t : Addr} {ys : List V} : SqT K H t ys → (∀ y ∈ ys, flatV y = true) → ys.length ≤ 100 → ItV K H (.ref t) (some ys)
  | no {x : V} : NoTup K H x → ItV K H x none
theorem ItV.up {K : PySem.W.Frag} {H H' : Hp} (e : Ex H H') {x : V} {o : Option (List V)} (h : ItV K H x o) : ItV K H' x o := by
  cases h with
  | tup h1 h2 h3 => exact .tup (ex_t e h1) h2 h3
  | no h => exact .no fun H2 e2 => h H2 (e.trans e2)
inductive ItL (K : PySem.W.Frag) (H : Hp) : List V → List (Option (List V)) → Prop
  | nil : ItL K H [] []
  | cons {x : V} {o : Option (List V)} {xs : List V} {os : List (Option (List V))} : ItV K H x o → ItL K H xs os → ItL K H (x :: xs) (o :: os)
theorem ItL.up {K : PySem.W.Frag} {H H' : Hp} (e : Ex H H') : ∀ {xs os}, ItL K H xs os → ItL K H' xs os
  | _, _, .nil => .nil
  | _, _, .cons h r => .cons (h.up e) (r.up e)
theorem ItL.len {K : PySem.W.Frag} {H : Hp} : ∀ {xs os}, ItL K H xs os → xs.length = os.length
  | _, _, .nil => rfl
  | _, _, .cons _ r => congrArg (· + 1) r.len
theorem ItL.get {K : PySem.W.Frag} {H : Hp} : ∀ {xs os}, ItL K H xs os → ∀ (i : Nat) (x : V), xs[i]? = some x → ∃ o, os[i]? = some o ∧ ItV K H x o
  | _, _, .nil, _, _, h => nomatch h
  | _, _, .cons h r, 0, x, e => ⟨_, rfl, by cases e; exact h⟩
  | _, _, .cons h r, i + 1, x, e => r.get i x e
theorem ItL.app {K : PySem.W.Frag} {H : Hp} : ∀ {xs os ys ps}, ItL K H xs os → ItL K H ys ps → ItL K H (xs ++ ys) (os ++ ps)
  | _, _, _, _, .nil, k => k
  | _, _, _, _, .cons h r, k => .cons h (r.app k)
def okItem : Option (List V) → Bool
  | some ys => decide (ys.length = 2) && ys.all fun y => numV y (-1000000) 1000000
  | none => false
/-- the places as are_places sees them -/
inductive ArV (K : PySem.W.Frag) (H : Hp) : V → Option (List (Option (List V))) → Prop
  | tup {t : Addr} {xs : List V} {os : List (Option (List V))} : SqT K H t xs → ItL K H xs os → xs.length ≤ 100 → ArV K H (.ref t) (some os)
  | no {x : V} : NoTup K H x → ArV K H x none
theorem ArV.up {K : PySem.W.Frag} {H H' : Hp} (e : Ex H H') {x : V} {o : Option (List (Option (List V)))} (h : ArV K H x o) : ArV K H' x o := by
  cases h with
  | tup h1 h2 h3 => exact .tup (ex_t e h1) (h2.up e) h3
  | no h => exact .no fun H2 e2 => h H2 (e.trans e2)
def okAll (m : Int) : Option (List (Option (List V))) → Bool
  | some os => decide ((os.length : Int) = m) && os.all okItem
  | none => false
theorem ev_noTup {K : PySem.W.Frag} {σ : L2.St} {H : Hp} {i : Nat} {x : V} (h : σ[i]? = some (some x)) (hx : NoTup K H x) : Ev (tCB (rIsi K) (tCons (tVar i) (tCons (tC (.ty "tuple")) tNil))) σ H (.bl false) := fun H1 e Q q => ⟨_, h, by
  obtain ⟨t, h1, h2⟩ := hx H1 e
  exact ⟨x, _, t, _, false, rfl, .ty _, h1, h2, q H1 (Ex.refl _)⟩⟩
theorem ev_isTup {K : PySem.W.Frag} {σ : L2.St} {H : Hp} {i : Nat} {t : Addr} {xs : List V} (h : σ[i]? = some (some (.ref t))) (hx : SqT K H t xs) : Ev (tCB (rIsi K) (tCons (tVar i) (tCons (tC (.ty "tuple")) tNil))) σ H (.bl true) :=
  ev_isi (ev_var h) (.ty _) (fun _ e => ty_tup (ex_t e hx)) rfl
theorem map_getD {α β : Type} (f : α → β) (d : α) (l : List α) : ((List.range l.length).map fun i => f (l.getD i d)) = l.map f := by
  refine List.ext_getElem (by simp) fun i h1 h2 => ?_
  have hi : i < l.length := by simpa using h1
  simp [List.getD_eq_getElem?_getD, hi]
section
variable {P : Program} {w : World} {K : PySem.W.Frag} {mg : Str → Option Value} {base : Heap}
def spPlace (K : PySem.W.Frag) : Sp := fun vs H Q _ => ∃ x o, vs = [x] ∧ ItV K H x o ∧ RetV (.bl (okItem o)) H Q
theorem scPl : FnScope ["value", "item"] ["value"] (defScope s_is_place) := ⟨rfl, rfl, rfl, by decide +kernel, rfl, by decide +kernel, by decide +kernel⟩
theorem ok_place {f fN fW : Addr} {fd fdN fdW : FuncData} (F : Fun K "is_place" "is_place" s_is_place f fd) (B : CkB mg) (gm : ∃ t, mg "MOST_PLACE" = some (.int 1000000 t)) (FN : Fun K "is_number" "is_number" s_is_number fN fdN) (mgN : mg "is_number" = some (.ref fN)) (FW : Fun K "is_whole" "is_whole" s_is_whole fW fdW) (mgW : mg "is_whole" = some (.ref fW)) :
    FnOk P w K mg base CX0 3 f fd ["value"] (spPlace K) := by
  have GN : FnOk P w K mg base CX0 2 fN fdN ["value", "least", "most"] spNumber := ok_number FN B FW mgW
  have bN : Binds K fdN ["value", "least", "most"] [] := FN.binds (ps := ["value", "least", "most"]) fun _ _ _ _ _ _ us hl => match us, hl with | [_, _, _], _ => rfl
  obtain ⟨tk, gm⟩ := gm
  refine F.ok scPl (fun vs H Q E h => ?_) (fun cdv A outer s H vs Q E hr h => ?_)
  · obtain ⟨x, o, rfl, _⟩ := h
    rfl
  · obtain ⟨x, o, rfl, hx, k⟩ := h
    refine ⟨_, pss_cons (ps_if (PW.pt (pw_or (pt_not (pt_val (pe_callB call_isi (by rfl) B.isi boot_isi (pa_cons (pv 0) (pa_cons (pe_bltn (v := .ty "tuple") (by rfl) B.tup boot_tupT rfl) pa_nil)))))
        (pw_or1 (pt_cmpR op_ne (pe_callB call_len_seq (by rfl) B.len PySem.boot_len (pa_cons (pv 0) pa_nil)) pe_int (nomark _))))) (pss_one (ps_ret pe_bl)) pss_nil)
      (pss_one (ps_ret (pe_callB (call_allB rfl) (by rfl) B.all boot_all (pa_cons (pe_lc (own := [("item", 1)]) (g := gName 1) rfl scPl.nd (pi_tup (pv 0)) (blkOk_by (N := ["value", "item"]) (sc := defScope s_is_place) (by decide +kernel))
        (fun _ _ _ _ _ => pg_name (i := 1) scPl.nd rfl (Or.inl rfl)) (fun _ _ _ _ _ => pts_nil) (fun _ _ _ _ _ => pe_call GN hr (by rfl) mgN FN.kp bN .nil pass0 (pa_cons (pv 1) (pa_cons (pe_un un_neg (pe_glob (v := .int 1000000) (by rfl) gm ⟨tk, rfl⟩)) (pa_cons (pe_glob (v := .int 1000000) (by rfl) gm ⟨tk, rfl⟩) pa_nil))))) pa_nil)))), ?_⟩
    cases hx with
    | no hn => exact q_when (b := true) (et_or (b := true) (et_not (et_B (ev_noTup rfl hn))) (fun z => by cases z)) (fun _ H1 e1 => s_ret ev_c fun H2 e2 => k.go (e1.trans e2)) (fun z => by cases z)
    | @tup t ys ht hf hl =>
      refine q_when (et_or (et_not (et_B (ev_isTup rfl ht))) (fun _ => et_test (ev_op (ev_lenS (es_var rfl ht)) ev_c (rv_ne rfl)))) (fun hb H1 e1 => ?_) (fun hb H1 e1 => ?_)
      · have hne : ¬ ys.length = 2 := fun e => by
          rw [e] at hb
          cases hb
        refine s_ret (v := .bl false) ev_c fun H2 e2 => ?_
        have q : okItem (some ys) = false := by
          show (decide (ys.length = 2) && ys.all fun y => numV y (-1000000) 1000000) = false
          rw [decide_eq_false hne, Bool.false_and]
        rw [← q]
        exact k.go (e1.trans e2)
      · have heq : ys.length = 2 := by
          by_cases e : ys.length = 2
          · exact e
          · have q : decide (V.int (ys.length : Int) = V.int 2) = false := decide_eq_false fun z => e (by have := V.int.inj z; omega)
            rw [q] at hb
            cases hb
        have hLC : EvL (tLc (iTup K (tVar 0)) (gName 1) tYes (tCall spNumber [] E0 (tCons (tVar 1) (tCons (tUn (rU fun i => .int (-i)) (tC (.int 1000000))) (tCons (tC (.int 1000000)) tNil)))) [1]) [some (.ref t), none] H1 (given ys.length (fun _ => true) fun i => V.bl (numV (ys.getD i .non) (-1000000) 1000000)) := by
          refine el_lcW (n := ys.length) (Y := YAt ys) _ _ (by omega) (w_tup (es_var rfl (ex_t e1 ht))) (fun i x H2 H3 hi e2 y => ?_)
          obtain ⟨rfl, hy⟩ := y
          have fx : flatV x = true := hf x (List.mem_of_getElem? hy)
          refine ⟨Ex.refl _, _, fun R hR => hR, rfl, fun H3 _ Q q => q H3 (Ex.refl _), fun _ => ?_⟩
          rw [List.getD_eq_getElem?_getD, hy]
          exact ev_call (ea_cons (ev_var rfl) (ea_cons (ev_un ev_c ru_neg) (ea_cons ev_c ea_nil))) (sp_number fx)
        refine s_ret (v := .bl (okItem (some ys))) (ev_is (ev_all (el_is (ys := (ys.map fun y => numV y (-1000000) 1000000).map V.bl) hLC ?_)) ?_) (fun H2 e2 => k.go (e1.trans e2))
        · rw [given_all, List.map_map, ← map_getD _ V.non]
          rfl
        · show _ = V.bl (decide (ys.length = 2) && ys.all fun y => numV y (-1000000) 1000000)
          rw [decide_eq_true heq, Bool.true_and, List.all_map]
          rfl
def spArePl (K : PySem.W.Frag) (C : Addr) : Sp := fun vs H Q _ => ∃ (x v : V) (m : Int) (ks : List (Int × Int)) (o : Option (List (Option (List V)))), vs = [x, v] ∧ NetV K C H x m ks ∧ ArV K H v o ∧ RetV (.bl (okAll m o)) H Q
theorem scAp : FnScope ["net", "value", "item"] ["net", "value"] (defScope s_are_places) := ⟨rfl, rfl, rfl, by decide +kernel, rfl, by decide +kernel, by decide +kernel⟩
theorem ok_arePl {f fP fN fW C fI : Addr} {fd fdP fdN fdW : FuncData} (F : Fun K "are_places" "are_places" s_are_places f fd) (B : CkB mg) (T : NtF K mg C fI) (gm : ∃ t, mg "MOST_PLACE" = some (.int 1000000 t)) (FP : Fun K "is_place" "is_place" s_is_place fP fdP) (mgP : mg "is_place" = some (.ref fP))
    (FN : Fun K "is_number" "is_number" s_is_number fN fdN) (mgN : mg "is_number" = some (.ref fN)) (FW : Fun K "is_whole" "is_whole" s_is_whole fW fdW) (mgW : mg "is_whole" = some (.ref fW)) :
    FnOk P w K mg base CX0 4 f fd ["net", "value"] (spArePl K C) := by
  have GP : FnOk P w K mg base CX0 3 fP fdP ["value"] (spPlace K) := ok_place FP B gm FN mgN FW mgW
  have bP : Binds K fdP ["value"] [] := FP.binds (ps := ["value"]) fun _ _ _ _ _ _ us hl => match us, hl with | [_], _ => rfl
  refine F.ok scAp (fun vs H Q E h => ?_) (fun cdv A outer s H vs Q E hr h => ?_)
  · obtain ⟨x, v, m, ks, o, rfl, _⟩ := h
    rfl
  · obtain ⟨x, v, m, ks, o, rfl, hN, hx, k⟩ := h
    refine ⟨_, pss_cons (ps_if (PW.pt (pw_or (pt_not (pt_val (pe_callB call_isi (by rfl) B.isi boot_isi (pa_cons (pv 1) (pa_cons (pe_bltn (v := .ty "tuple") (by rfl) B.tup boot_tupT rfl) pa_nil)))))
        (pw_or1 (pt_cmpR op_ne (pe_callB call_len_seq (by rfl) B.len PySem.boot_len (pa_cons (pv 1) pa_nil)) (pe_fld (pv 0) rfl) (nomark _))))) (pss_one (ps_ret pe_bl)) pss_nil)
      (pss_one (ps_ret (pe_callB (call_allB rfl) (by rfl) B.all boot_all (pa_cons (pe_lc (own := [("item", 2)]) (g := gName 2) rfl scAp.nd (pi_tup (pv 1)) (blkOk_by (N := ["net", "value", "item"]) (sc := defScope s_are_places) (by decide +kernel))
        (fun _ _ _ _ _ => pg_name (i := 2) scAp.nd rfl (Or.inl rfl)) (fun _ _ _ _ _ => pts_nil) (fun _ _ _ _ _ => pe_call GP hr (by rfl) mgP FP.kp bP .nil pass0 (pa_cons (pv 2) pa_nil))) pa_nil)))), ?_⟩
    cases hx with
    | no hn => exact q_when (b := true) (et_or (b := true) (et_not (et_B (ev_noTup rfl hn))) (fun z => by cases z)) (fun _ H1 e1 => s_ret ev_c fun H2 e2 => k.go (e1.trans e2)) (fun z => by cases z)
    | @tup t xs os ht hi hl =>
      have hlen := hi.len
      refine q_when (et_or (et_not (et_B (ev_isTup rfl ht))) (fun _ => et_test (ev_op (ev_lenS (es_var rfl ht)) (ev_many T (ev_var rfl) hN) (rv_ne rfl)))) (fun hb H1 e1 => ?_) (fun hb H1 e1 => ?_)
      · have hne : ¬ (os.length : Int) = m := fun e => by
          rw [hlen, e, decide_eq_true rfl] at hb
          cases hb
        refine s_ret (v := .bl false) ev_c fun H2 e2 => ?_
        have q : okAll m (some os) = false := by
          show (decide ((os.length : Int) = m) && os.all okItem) = false
          rw [decide_eq_false hne, Bool.false_and]
        rw [← q]
        exact k.go (e1.trans e2)
      · have heq : (os.length : Int) = m := by
          by_cases e : (os.length : Int) = m
          · exact e
          · have q : decide (V.int (xs.length : Int) = V.int m) = false := decide_eq_false fun z => e (by have := V.int.inj z; omega)
            rw [q] at hb
            cases hb
        have hLC : EvL (tLc (iTup K (tVar 1)) (gName 2) tYes (tCall (spPlace K) [] E0 (tCons (tVar 2) tNil)) [2]) [some x, some (.ref t), none] H1 (given xs.length (fun _ => true) fun i => V.bl (okItem (os.getD i none))) := by
          refine el_lcW (n := xs.length) (Y := YAt xs) _ _ (by omega) (w_tup (es_var rfl (ex_t e1 ht))) (fun i z H2 H3 hj e2 y => ?_)
          obtain ⟨rfl, hy⟩ := y
          obtain ⟨o, ho, iv⟩ := hi.get i z hy
          refine ⟨Ex.refl _, _, fun R hR => hR, rfl, fun H3 _ Q q => q H3 (Ex.refl _), fun _ => ?_⟩
          rw [List.getD_eq_getElem?_getD, ho]
          exact ev_call (ea_cons (ev_var rfl) ea_nil) (fun H4 e4 Q q E => ⟨z, o, rfl, iv.up (e1.trans e4), fun H5 e5 => q H5 e5⟩)
        refine s_ret (v := .bl (okAll m (some os))) (ev_is (ev_all (el_is (ys := (os.map okItem).map V.bl) hLC ?_)) ?_) (fun H2 e2 => k.go (e1.trans e2))
        · rw [given_all, List.map_map, hlen, ← map_getD _ none]
          rfl
        · show _ = V.bl (decide ((os.length : Int) = m) && os.all okItem)
          rw [decide_eq_true heq, Bool.true_and, List.all_map]
          rfl
end
end My
/-! need_places, fault_of, is_drawing -/
namespace My
open PySem PySem.Spec PyProof.Rows L2 Evl
/-- a place as the package lets it be -/
def Near (p : Pt) : Prop := -1000000 ≤ p.1 ∧ p.1 ≤ 1000000 ∧ -1000000 ≤ p.2 ∧ p.2 ≤ 1000000
theorem Near.sm {p : Pt} (h : Near p) : Sm p := by
  obtain ⟨h1, h2, h3, h4⟩ := h
  exact ⟨by omega, by omega, by omega, by omega⟩
theorem itl_of {K : PySem.W.Frag} {H : Hp} : ∀ {xs ps}, PrL H xs ps → ItL K H xs (ps.map fun p => some [V.int p.1, V.int p.2])
  | _, _, .nil => .nil
  | _, _, .cons ⟨t, e, ht⟩ r => by
    subst e
    exact .cons (.tup (SqT.of ht) (fun y hy => by
      rcases List.mem_cons.mp hy with e | hy
      · rw [e]; rfl
      · rw [List.mem_singleton.mp hy]; rfl) (by show 2 ≤ 100; decide)) (itl_of r)
theorem ok_near {p : Pt} (h : Near p) : okItem (some [V.int p.1, V.int p.2]) = true := by
  obtain ⟨h1, h2, h3, h4⟩ := h
  show (decide ((2 : Nat) = 2) && ([V.int p.1, V.int p.2].all fun y => numV y (-1000000) 1000000)) = true
  rw [List.all_cons, List.all_cons, num_in (by omega) (by omega) h1 h2, num_in (by omega) (by omega) h3 h4]
  rfl
theorem okAll_near {m : Int} {ps : List Pt} (h : ∀ p ∈ ps, Near p) (hm : (ps.length : Int) = m) : okAll m (some (ps.map fun p => some [V.int p.1, V.int p.2])) = true := by
  show (decide (((ps.map fun p => some [V.int p.1, V.int p.2]).length : Int) = m) && _) = true
  rw [List.length_map, decide_eq_true hm, Bool.true_and, List.all_map]
  exact List.all_eq_true.mpr fun p hp => ok_near (h p hp)
section
variable {P : Program} {w : World} {K : PySem.W.Frag} {mg : Str → Option Value} {base : Heap}
/-- no net | a net and no places for it -/
def BadV (K : PySem.W.Frag) (C CN CP : Addr) (x v : V) (H : Hp) (E : XK) : Prop :=
  ((∀ H', Ex H H' → NoInst K C H' x) ∧ ∀ H', Ex H H' → E (.ref CN) none H') ∨ ∃ m ks o, NetV K C H x m ks ∧ ArV K H v o ∧ okAll m o = false ∧ ∀ H', Ex H H' → E (.ref CP) none H'
def spNeedPl (K : PySem.W.Frag) (C CN CP : Addr) : Sp := fun vs H Q E => ∃ x v, vs = [x, v] ∧ (BadV K C CN CP x v H E ∨ ∃ m ks o, NetV K C H x m ks ∧ ArV K H v o ∧ okAll m o = true ∧ RetV .non H Q)
theorem scNp : FnScope ["net", "places"] ["net", "places"] (defScope s_need_places) := ⟨rfl, rfl, rfl, by decide +kernel, rfl, by decide +kernel, by decide +kernel⟩
theorem ok_needPl {f fA fNe fP fN fW C fI CN CP : Addr} {fd fdA fdNe fdP fdN fdW : FuncData} (F : Fun K "need_places" "need_places" s_need_places f fd) (B : CkB mg) (T : NtF K mg C fI) (I : InsF K C) (XN : ExF K mg "BadNet" CN) (XP : ExF K mg "BadPlaces" CP) (gm : ∃ t, mg "MOST_PLACE" = some (.int 1000000 t))
    (FNe : Fun K "need_net" "need_net" s_need_net fNe fdNe) (mgNe : mg "need_net" = some (.ref fNe)) (FA : Fun K "are_places" "are_places" s_are_places fA fdA) (mgA : mg "are_places" = some (.ref fA)) (FP : Fun K "is_place" "is_place" s_is_place fP fdP) (mgP : mg "is_place" = some (.ref fP))
    (FN : Fun K "is_number" "is_number" s_is_number fN fdN) (mgN : mg "is_number" = some (.ref fN)) (FW : Fun K "is_whole" "is_whole" s_is_whole fW fdW) (mgW : mg "is_whole" = some (.ref fW)) :
    FnOk P w K mg base (L2.CX P w) 5 f fd ["net", "places"] (spNeedPl K C CN CP) := by
  have GA : FnOk P w K mg base CX0 4 fA fdA ["net", "value"] (spArePl K C) := ok_arePl FA B T gm FP mgP FN mgN FW mgW
  have bA : Binds K fdA ["net", "value"] [] := FA.binds (ps := ["net", "value"]) fun _ _ _ _ _ _ us hl => match us, hl with | [_, _], _ => rfl
  have GNe : FnOk P w K mg base (L2.CX P w) 1 fNe fdNe ["net"] (spNeed K C CN) := ok_need FNe T I XN B.isi
  have bNe : Binds K fdNe ["net"] [] := FNe.binds (ps := ["net"]) fun _ _ _ _ _ _ us hl => match us, hl with | [_], _ => rfl
  refine F.okX scNp (fun vs H Q E h => ?_) (fun cdv A outer s H vs Q E hr h => ?_)
  · obtain ⟨x, v, rfl, _⟩ := h
    rfl
  · obtain ⟨x, v, rfl, h⟩ := h
    have hr1 := hr.mono (show 1 ≤ 4 by decide)
    refine ⟨_, pss_cons (ps_expr (pe_call (E := E) GNe hr1 (by rfl) mgNe FNe.kp bNe .nil (passes_call (W := WxE E) (takes_of rfl rfl rfl rfl) fun _ _ _ _ h => h) (pa_cons (pv 0) pa_nil)))
      (pss_one (ps_if (pt_not (pt_val (pe_call GA hr (by rfl) mgA FA.kp bA .nil pass0 (pa_cons (pv 0) (pa_cons (pv 1) pa_nil))))) (pss_one (ps_raiseP (W := WxE E) XP rfl (takes_of rfl rfl rfl rfl) (by rfl))) pss_nil)), ?_⟩
    rcases h with (⟨hx, hE⟩ | ⟨m, ks, o, hN, hv, hf, hE⟩) | ⟨m, ks, o, hN, hv, hf, k⟩
    · exact ⟨_, rfl, x, rfl, .inr ⟨hx, hE⟩⟩
    · refine ⟨_, rfl, x, rfl, .inl ⟨m, ks, hN, fun H1 e1 => ⟨_, rfl, _, rfl, x, v, m, ks, o, rfl, hN.up e1, hv.up e1, fun H2 e2 => ⟨false, ?_, ?_⟩⟩⟩⟩
      · rw [hf]
      · exact iteT (hE H2 (e1.trans e2))
    · refine ⟨_, rfl, x, rfl, .inl ⟨m, ks, hN, fun H1 e1 => ⟨_, rfl, _, rfl, x, v, m, ks, o, rfl, hN.up e1, hv.up e1, fun H2 e2 => ⟨true, ?_, ?_⟩⟩⟩⟩
      · rw [hf]
      · exact iteF (k.go (e1.trans e2))
/-- a net and places for it -/
def GoodV (K : PySem.W.Frag) (C : Addr) (x v : V) (H : Hp) (m : Nat) (ks : List (Int × Int)) (ps : List Pt) : Prop := NetV K C H x (m : Int) ks ∧ OkNet (m : Int) ks ∧ ∃ a xs, v = .ref a ∧ SqT K H a xs ∧ PrL H xs ps ∧ ps.length = m ∧ ∀ p ∈ ps, Near p
theorem GoodV.up {C : Addr} {x v : V} {H H' : Hp} {m : Nat} {ks : List (Int × Int)} {ps : List Pt} (e : Ex H H') (h : GoodV K C x v H m ks ps) : GoodV K C x v H' m ks ps :=
  let ⟨h1, h2, a, xs, h3, h4, h5, h6⟩ := h
  ⟨h1.up e, h2, a, xs, h3, ex_t e h4, h5.up e, h6⟩
theorem GoodV.arr {C : Addr} {x v : V} {H : Hp} {m : Nat} {ks : List (Int × Int)} {ps : List Pt} (h : GoodV K C x v H m ks ps) : ∃ o, ArV K H v o ∧ okAll (m : Int) o = true := by
  obtain ⟨h1, h2, a, xs, rfl, h4, h5, h6, h7⟩ := h
  have := h5.len
  have := h2.hi
  exact ⟨_, .tup h4 (itl_of h5) (by omega), okAll_near h7 (by rw [h6])⟩
def spFaultOf (K : PySem.W.Frag) (C CN CP : Addr) : Sp := fun vs H Q E => ∃ x v, vs = [x, v] ∧ (BadV K C CN CP x v H E ∨ ∃ m ks ps, GoodV K C x v H m ks ps ∧ RetF (faultP m ks ps) H Q)
theorem scFo : FnScope ["net", "places"] ["net", "places"] (defScope s_fault_of) := ⟨rfl, rfl, rfl, by decide +kernel, rfl, by decide +kernel, by decide +kernel⟩
theorem ok_faultOf {f fP fAt C CN CP : Addr} {fd fdP fdAt : FuncData} (F : Fun K "fault_of" "fault_of" s_fault_of f fd) (GP : FnOk P w K mg base (L2.CX P w) 5 fP fdP ["net", "places"] (spNeedPl K C CN CP)) (FP : Fun K "need_places" "need_places" s_need_places fP fdP) (mgP : mg "need_places" = some (.ref fP))
    (GF : FnOk P w K mg base CX0 3 fAt fdAt ["net", "places"] (spFaultAt K C)) (FF : Fun K "fault_at" "fault_at" s_fault_at fAt fdAt) (mgF : mg "fault_at" = some (.ref fAt)) : FnOk P w K mg base (L2.CX P w) 6 f fd ["net", "places"] (spFaultOf K C CN CP) := by
  have bP : Binds K fdP ["net", "places"] [] := FP.binds (ps := ["net", "places"]) fun _ _ _ _ _ _ us hl => match us, hl with | [_, _], _ => rfl
  have bF : Binds K fdAt ["net", "places"] [] := FF.binds (ps := ["net", "places"]) fun _ _ _ _ _ _ us hl => match us, hl with | [_, _], _ => rfl
  refine F.okX scFo (fun vs H Q E h => ?_) (fun cdv A outer s H vs Q E hr h => ?_)
  · obtain ⟨x, v, rfl, _⟩ := h
    rfl
  · obtain ⟨x, v, rfl, h⟩ := h
    have hr3 := hr.mono (show 3 ≤ 5 by decide)
    refine ⟨_, pss_cons (ps_expr (pe_call (E := E) GP hr (by rfl) mgP FP.kp bP .nil (passes_call (W := WxE E) (takes_of rfl rfl rfl rfl) fun _ _ _ _ h => h) (pa_cons (pv 0) (pa_cons (pv 1) pa_nil))))
      (pss_one (ps_ret (pe_call GF hr3 (by rfl) mgF FF.kp bF .nil pass0 (pa_cons (pv 0) (pa_cons (pv 1) pa_nil))))), ?_⟩
    rcases h with h | ⟨m, ks, ps, hg, k⟩
    · exact ⟨_, rfl, _, rfl, x, v, rfl, .inl h⟩
    · obtain ⟨o, ho, hok⟩ := hg.arr
      refine ⟨_, rfl, _, rfl, x, v, rfl, .inr ⟨(m : Int), ks, o, hg.1, ho, hok, fun H1 e1 => ?_⟩⟩
      obtain ⟨h1, h2, a, xs, rfl, h4, h5, h6, h7⟩ := hg.up e1
      exact ⟨_, rfl, _, rfl, x, a, m, ks, xs, ps, rfl, h1, h2, h4, h5, h6, fun p hp => (h7 p hp).sm, fun v' H2 e2 o2 => k v' H2 (e1.trans e2) o2⟩
def spIsDr (K : PySem.W.Frag) (C CN : Addr) : Sp := fun vs H Q E => ∃ x v, vs = [x, v] ∧ (((∀ H', Ex H H' → NoInst K C H' x) ∧ ∀ H', Ex H H' → E (.ref CN) none H') ∨ (∃ m ks o, NetV K C H x m ks ∧ ArV K H v o ∧ okAll m o = false ∧ RetV (.bl false) H Q) ∨
  ∃ m ks ps, GoodV K C x v H m ks ps ∧ RetV (.bl (faultP m ks ps).isNone) H Q)
theorem scId : FnScope ["net", "value"] ["net", "value"] (defScope s_is_drawing) := ⟨rfl, rfl, rfl, by decide +kernel, rfl, by decide +kernel, by decide +kernel⟩
theorem ok_isDr {f fNe fA fAt C CN : Addr} {fd fdNe fdA fdAt : FuncData} (F : Fun K "is_drawing" "is_drawing" s_is_drawing f fd) (GNe : FnOk P w K mg base (L2.CX P w) 1 fNe fdNe ["net"] (spNeed K C CN)) (FNe : Fun K "need_net" "need_net" s_need_net fNe fdNe) (mgNe : mg "need_net" = some (.ref fNe))
    (GA : FnOk P w K mg base CX0 4 fA fdA ["net", "value"] (spArePl K C)) (FA : Fun K "are_places" "are_places" s_are_places fA fdA) (mgA : mg "are_places" = some (.ref fA)) (GF : FnOk P w K mg base CX0 3 fAt fdAt ["net", "places"] (spFaultAt K C)) (FF : Fun K "fault_at" "fault_at" s_fault_at fAt fdAt) (mgF : mg "fault_at" = some (.ref fAt)) :
    FnOk P w K mg base (L2.CX P w) 5 f fd ["net", "value"] (spIsDr K C CN) := by
  have bNe : Binds K fdNe ["net"] [] := FNe.binds (ps := ["net"]) fun _ _ _ _ _ _ us hl => match us, hl with | [_], _ => rfl
  have bA : Binds K fdA ["net", "value"] [] := FA.binds (ps := ["net", "value"]) fun _ _ _ _ _ _ us hl => match us, hl with | [_, _], _ => rfl
  have bF : Binds K fdAt ["net", "places"] [] := FF.binds (ps := ["net", "places"]) fun _ _ _ _ _ _ us hl => match us, hl with | [_, _], _ => rfl
  refine F.okX scId (fun vs H Q E h => ?_) (fun cdv A outer s H vs Q E hr h => ?_)
  · obtain ⟨x, v, rfl, _⟩ := h
    rfl
  · obtain ⟨x, v, rfl, h⟩ := h
    have hr1 := hr.mono (show 1 ≤ 4 by decide)
    have hr3 := hr.mono (show 3 ≤ 4 by decide)
    refine ⟨_, pss_cons (ps_expr (pe_call (E := E) GNe hr1 (by rfl) mgNe FNe.kp bNe .nil (passes_call (W := WxE E) (takes_of rfl rfl rfl rfl) fun _ _ _ _ h => h) (pa_cons (pv 0) pa_nil)))
      (pss_one (ps_ret (pe_and (pe_call GA hr (by rfl) mgA FA.kp bA .nil pass0 (pa_cons (pv 0) (pa_cons (pv 1) pa_nil))) (pe_one (pe_cmpR op_isN (pe_call GF hr3 (by rfl) mgF FF.kp bF .nil pass0 (pa_cons (pv 0) (pa_cons (pv 1) pa_nil))) pe_non (nomark _)))))), ?_⟩
    rcases h with ⟨hx, hE⟩ | ⟨m, ks, o, hN, hv, hf, k⟩ | ⟨m, ks, ps, hg, k⟩
    · exact ⟨_, rfl, x, rfl, .inr ⟨hx, hE⟩⟩
    · refine ⟨_, rfl, x, rfl, .inl ⟨m, ks, hN, fun H1 e1 => ⟨_, rfl, _, rfl, x, v, m, ks, o, rfl, hN.up e1, hv.up e1, fun H2 e2 => ⟨_, rfl, ?_⟩⟩⟩⟩
      rw [hf]
      exact iteF (k.go (e1.trans e2))
    · obtain ⟨o, ho, hok⟩ := hg.arr
      refine ⟨_, rfl, x, rfl, .inl ⟨(m : Int), ks, hg.1, fun H1 e1 => ⟨_, rfl, _, rfl, x, v, (m : Int), ks, o, rfl, hg.1.up e1, ho.up e1, fun H2 e2 => ⟨_, rfl, ?_⟩⟩⟩⟩
      rw [hok]
      refine iteT ?_
      obtain ⟨h1, h2, a, xs, rfl, h4, h5, h6, h7⟩ := hg.up (e1.trans e2)
      refine ⟨_, rfl, _, rfl, x, a, m, ks, xs, ps, rfl, h1, h2, h4, h5, h6, fun p hp => (h7 p hp).sm, fun v' H3 e3 o3 => ⟨rfl, ?_⟩⟩
      have e : decide (v' = V.non) = (faultP m ks ps).isNone := by
        cases hq : faultP m ks ps with
        | none =>
          rw [hq] at o3
          have o3 : v' = V.non := o3
          rw [o3]
          rfl
        | some r =>
          rw [hq] at o3
          have o3 : FltV r v' H3 := o3
          have hr : ∃ T, v' = V.ref T := by
            cases r with
            | same i j => exact let ⟨T, h, _⟩ := o3; ⟨T, h⟩
            | on p t => exact let ⟨T, _, h, _⟩ := o3; ⟨T, h⟩
            | cross t o => exact let ⟨T, _, _, h, _⟩ := o3; ⟨T, h⟩
          obtain ⟨T, rfl⟩ := hr
          exact decide_eq_false fun z => by cases z
      rw [e]
      exact k.go ((e1.trans e2).trans e3)
end
end My
/-! the draws reach every place: the pure law behind the loop that looks for new places -/
namespace My
open PySem L2 Evl
def inv1 : List Int := [716954802, 1157397981, 1229848394, 1685990315, 1878073789, 1965009355, 1135551071, 1429728258, 665188904, 1023358787, 946490670, 1287733549, 1297677075, 1248470375, 531727864, 1837604721, 2034514282, 1311630874, 1071017386, 439269881, 539024382, 1298433694, 1186614808, 1774562553, 2085785722, 302092417, 1545238155, 874308012, 338831736, 630798110, 57496220, 207556171, 711156679, 526650444, 814698909, 713907288, 1876807265, 1076203624, 708815481, 269291161, 657306901, 858863589, 2803074, 1060721699, 475238556, 217642997, 1287156467, 391493031, 548196770, 2031169077, 1502379034, 27579162, 1865372695, 44498663, 1706751723, 594868314, 1475494161, 956739912, 1259094421, 1070261940, 1802456447, 304368573, 2307289, 2074799005]
def inv2 : List Int := [888489427, 1916287559, 1613853296, 1105160655, 902463100, 622369100, 1858559769, 1820404112, 1866533796, 208396203, 2070030326, 2115751156, 1916201237, 1197745676, 1050593579, 1821397264, 2026123232, 999078509, 106114320, 1414695910, 2110722103, 1335861272, 1161291604, 878247598, 576578880, 1510599708, 1188734534, 815582042, 1870835997, 112452748, 1880584713, 1803844755, 1043809922, 790119793, 783176990, 1246417764, 1900311762, 872271628, 47255632, 1389630778, 499652283, 1126507646, 1242688836, 1396938763, 22137072, 1752392790, 1649337320, 628710892, 946789604, 507175255, 1593926804, 554572154, 706688021, 743082815, 230624714, 1043397688, 846298913, 871498790, 1471658964, 1604774444, 121848273, 890545045, 1340321230, 742201516]
def inv3 : List Int := [1060624015, 1818911170, 1208231638, 700810151, 678350993, 575499591, 155166417, 1947443560, 1372743215, 1490448711, 239784244, 1569616525, 155239749, 1800201100, 1567644587, 1234276787, 461959055, 629252792, 1582428818, 1423106653, 1721834457, 389295497, 2058348183, 1796911768, 276654517, 1003355898, 998204010, 830698135, 138052743, 1310970484, 840708761, 1654137941, 1446279666, 70389004, 1780900618, 752075312, 1290549001, 190672966, 577765314, 1463206806, 2052205268, 89878074, 939727887, 1642754898, 1333481192, 1298201678, 700354081, 1315328057, 653449938, 1036451945, 353918045, 1139788193, 1646298990, 1590558556, 1805425695, 477242506, 1705345630, 730928568, 2029520084, 1629620559, 190605876, 64810405, 1653099213, 1363822497]
def cE1 : Int := 5880733395851081481365795450
def cE2 : Int := 901306113142417491530742091
def cE3 : Int := 3121468625831759274374349917
def cert3 : List (Int × Int × Int × Int × Int) := [(0, 1, 1, 2, 0), (0, 1, 32, 0, 1), (0, 1, 58, 2, 2), (0, 1, 77, 1, 0), (0, 1, 83, 1, 1), (0, 1, 111, 2, 1), (0, 1, 135, 0, 2)]
def cert5 : List (Int × Int × Int × Int × Int) := [(0, 1, 14, 1, 4), (0, 1, 32, 4, 0), (0, 1, 36, 3, 4), (0, 1, 149, 0, 4), (0, 1, 154, 1, 2), (0, 1, 167, 4, 2), (0, 1, 179, 1, 1)]
def cert7 : List (Int × Int × Int × Int × Int) := [(0, 1, 71, 2, 0), (0, 1, 95, 1, 6), (0, 1, 135, 1, 5), (0, 1, 155, 5, 2), (0, 1, 573, 0, 3), (0, 1, 585, 2, 1), (0, 1, 588, 0, 4)]
def cert19 : List (Int × Int × Int × Int × Int) := [(0, 1, 506, 16, 4), (0, 1, 939, 10, 8), (0, 1, 1940, 15, 9), (0, 1, 2188, 17, 11), (0, 1, 2643, 3, 4), (0, 1, 2734, 1, 4), (0, 1, 3993, 12, 15)]
def cert1000001 : List (Int × Int × Int × Int × Int) := [(0, 1999685649, 1354418078, 1, 1), (0, 1992543951, 1922941871, 2, 2), (0, 1603071495, 241394669, 3, 3), (0, 399877227, 1805973652, 4, 4), (0, 1177315110, 1185082782, 5, 5), (0, 1130990496, 1947066102, 6, 6), (0, 1021922969, 116518957, 7, 7)]
abbrev cP1 : Int := 2147482801
abbrev cP2 : Int := 2147482763
abbrev cP3 : Int := 2147482739
abbrev cM : Int := 2147483647
abbrev cPP : Int := 9903508134825258247270887457
theorem cPP_1 : cPP = cP1 * (cP2 * cP3) := by decide +kernel
theorem cPP_2 : cPP = cP2 * (cP1 * cP3) := by decide +kernel
theorem cPP_3 : cPP = cP3 * (cP1 * cP2) := by decide +kernel
/-- the factor of the turn behind n cells -/
def fac : Nat → Int → Int
  | 0, a => a
  | n + 1, a => fac n (a * 69621 + 1)
theorem inv1_ok : (List.range 64).all (fun n => (fac n 39373 * inv1[n]!) % cP1 == 1) = true := by decide +kernel
theorem inv2_ok : (List.range 64).all (fun n => (fac n 39373 * inv2[n]!) % cP2 == 1) = true := by decide +kernel
theorem inv3_ok : (List.range 64).all (fun n => (fac n 39373 * inv3[n]!) % cP3 == 1) = true := by decide +kernel
theorem inv_at {l : List Int} {p : Int} (h : (List.range 64).all (fun n => (fac n 39373 * l[n]!) % p == 1) = true) {n : Nat} (hn : n < 64) : ∃ c, (fac n 39373 * c) % p = 1 :=
  ⟨_, eq_of_beq (List.all_eq_true.mp h n (List.mem_range.mpr hn))⟩
theorem cgA {p a b c d : Int} (h : a % p = b % p) (k : c % p = d % p) : (a + c) % p = (b + d) % p := by
  rw [Int.add_emod, h, k, ← Int.add_emod]
theorem cgM {p a b c d : Int} (h : a % p = b % p) (k : c % p = d % p) : (a * c) % p = (b * d) % p := by
  rw [Int.mul_emod, h, k, ← Int.mul_emod]
theorem fold_aff (p : Int) : ∀ (cs : List Int) (a be : Int), ∃ b', ∀ (t b : Int), b % p = (a * t + be) % p → (cs.foldl (fun b z => (b * 69621 + z + t) % p) b) % p = (fac cs.length a * t + b') % p
  | [], a, be => ⟨be, fun t b h => h⟩
  | c :: cs, a, be => by
    obtain ⟨b', h⟩ := fold_aff p cs (a * 69621 + 1) (be * 69621 + c)
    refine ⟨b', fun t b hb => h t _ ?_⟩
    rw [Int.emod_emod]
    refine (cgA (cgA (cgM hb rfl) rfl) rfl).trans ?_
    congr 1
    rw [Int.add_mul, Int.add_mul, Int.one_mul, Int.mul_assoc, Int.mul_comm t 69621, ← Int.mul_assoc]
    omega
theorem blP_aff (cs : List Int) (p : Int) : ∃ b', ∀ t, blP cs t p % p = (fac cs.length 39373 * t + b') % p := by
  obtain ⟨b', h⟩ := fold_aff p cs 39373 (p / 67)
  exact ⟨b', fun t => h t _ rfl⟩
theorem pow5 (y : Int) : y ^ 5 = y * y * y * y * y := by
  rw [show (5 : Nat) = 0 + 1 + 1 + 1 + 1 + 1 from rfl]
  rw [Int.pow_succ, Int.pow_succ, Int.pow_succ, Int.pow_succ, Int.pow_succ, Int.pow_zero, Int.one_mul]
theorem cg5 {p x y : Int} (h : x % p = y % p) : x ^ 5 % p = y ^ 5 % p := by
  rw [pow5, pow5]
  exact cgM (cgM (cgM (cgM h h) h) h) h
/-- a turn for one prime -/
theorem res_of {a b' p u : Int} (h : ∃ c, (a * c) % p = 1) (hp : 1 < p) : ∃ r : Int, ∀ T, T % p = r % p → (a * T + b') % p = u % p := by
  obtain ⟨c, hc⟩ := h
  refine ⟨c * (u - b'), fun T hT => ?_⟩
  refine (cgA (cgM rfl hT) rfl).trans ?_
  rw [← Int.mul_assoc]
  have h1 : (1 : Int) % p = 1 := Int.emod_eq_of_lt (by decide) hp
  refine (cgA (cgM (hc.trans h1.symm) rfl) rfl).trans ?_
  rw [Int.one_mul]
  congr 1
  omega
theorem cE1_1 : cE1 % cP1 = 1 := by decide +kernel
theorem cE1_2 : cE1 % cP2 = 0 := by decide +kernel
theorem cE1_3 : cE1 % cP3 = 0 := by decide +kernel
theorem cE2_1 : cE2 % cP1 = 0 := by decide +kernel
theorem cE2_2 : cE2 % cP2 = 1 := by decide +kernel
theorem cE2_3 : cE2 % cP3 = 0 := by decide +kernel
theorem cE3_1 : cE3 % cP1 = 0 := by decide +kernel
theorem cE3_2 : cE3 % cP2 = 0 := by decide +kernel
theorem cE3_3 : cE3 % cP3 = 1 := by decide +kernel
theorem three {p r1 r2 r3 e1 e2 e3 a b c : Int} (h1 : e1 % p = a % p) (h2 : e2 % p = b % p) (h3 : e3 % p = c % p) : (r1 * e1 + r2 * e2 + r3 * e3) % p = (r1 * a + r2 * b + r3 * c) % p :=
  cgA (cgA (cgM rfl h1) (cgM rfl h2)) (cgM rfl h3)
/-- one turn for all three, soon -/
theorem crt (t r1 r2 r3 : Int) : ∃ T, t < T ∧ T ≤ t + cPP ∧ T % cP1 = r1 % cP1 ∧ T % cP2 = r2 % cP2 ∧ T % cP3 = r3 % cP3 := by
  let T0 := r1 * cE1 + r2 * cE2 + r3 * cE3
  have h0 : 0 ≤ (T0 - t - 1) % cPP := Int.emod_nonneg _ (by decide)
  have h1 : (T0 - t - 1) % cPP < cPP := Int.emod_lt_of_pos _ (by decide)
  have hd := Int.mul_ediv_add_emod (T0 - t - 1) cPP
  have key (p q : Int) (e : cPP = p * q) : (t + 1 + (T0 - t - 1) % cPP) % p = T0 % p := by
    have : t + 1 + (T0 - t - 1) % cPP = T0 + p * (-(q * ((T0 - t - 1) / cPP))) := by
      rw [Int.mul_neg, ← Int.mul_assoc, ← e]
      omega
    rw [this, Int.add_mul_emod_self_left]
  refine ⟨t + 1 + (T0 - t - 1) % cPP, by omega, by omega, ?_, ?_, ?_⟩
  · refine (key _ _ cPP_1).trans ((three (a := 1) (b := 0) (c := 0) (by rw [cE1_1]; rfl) (by rw [cE2_1]; rfl) (by rw [cE3_1]; rfl)).trans ?_)
    congr 1
    omega
  · refine (key _ _ cPP_2).trans ((three (a := 0) (b := 1) (c := 0) (by rw [cE1_2]; rfl) (by rw [cE2_2]; rfl) (by rw [cE3_2]; rfl)).trans ?_)
    congr 1
    omega
  · refine (key _ _ cPP_3).trans ((three (a := 0) (b := 0) (c := 1) (by rw [cE1_3]; rfl) (by rw [cE2_3]; rfl) (by rw [cE3_3]; rfl)).trans ?_)
    congr 1
    omega
def cN (u1 u2 u3 : Int) : Int := (u1 ^ 5 % cP1 * cM + u2 ^ 5 % cP2) * cM + u3 ^ 5 % cP3
theorem turn_for {cs : List Int} (hl : cs.length ≤ 63) (t u1 u2 u3 : Int) : ∃ T, t < T ∧ T ≤ t + cPP ∧ blN cs T = cN u1 u2 u3 := by
  obtain ⟨b1, h1⟩ := blP_aff cs cP1
  obtain ⟨b2, h2⟩ := blP_aff cs cP2
  obtain ⟨b3, h3⟩ := blP_aff cs cP3
  have hn : cs.length < 64 := by omega
  obtain ⟨r1, k1⟩ := res_of (b' := b1) (u := u1) (inv_at inv1_ok hn) (by decide)
  obtain ⟨r2, k2⟩ := res_of (b' := b2) (u := u2) (inv_at inv2_ok hn) (by decide)
  obtain ⟨r3, k3⟩ := res_of (b' := b3) (u := u3) (inv_at inv3_ok hn) (by decide)
  obtain ⟨T, l1, l2, e1, e2, e3⟩ := crt t r1 r2 r3
  refine ⟨T, l1, l2, ?_⟩
  have q1 := cg5 ((h1 T).trans (k1 T e1))
  have q2 := cg5 ((h2 T).trans (k2 T e2))
  have q3 := cg5 ((h3 T).trans (k3 T e3))
  show ((0 * 2147483647 + blP cs T cP1 ^ 5 % cP1) * 2147483647 + blP cs T cP2 ^ 5 % cP2) * 2147483647 + blP cs T cP3 ^ 5 % cP3 = _
  rw [q1, q2, q3, Int.zero_mul, Int.zero_add]
  rfl
/-! the machine of draws: one draw a step -/
structure DS where
  s : Src
  pend : Option Int
  ps : List Pt
def addP (ps : List Pt) (p : Pt) : List Pt := if p ∈ ps then ps else ps ++ [p]
def DS.step (S r : Int) (x : DS) : DS := match x.pend with
  | none => ⟨x.s.next S, some (x.s.val S), x.ps⟩
  | some u => ⟨x.s.next S, none, addP x.ps (u - r, x.s.val S - r)⟩
def DS.run (S r : Int) : Nat → DS → DS
  | 0, x => x
  | k + 1, x => DS.run S r k (x.step S r)
def SrcOk (s : Src) : Prop := 0 ≤ s.left ∧ ∀ x ∈ s.gs, 0 ≤ x
theorem blN_nn (cs : List Int) (t : Int) : 0 ≤ blN cs t := by
  have h1 : 0 ≤ blP cs t 2147482801 ^ 5 % 2147482801 := Int.emod_nonneg _ (by decide)
  have h2 : 0 ≤ blP cs t 2147482763 ^ 5 % 2147482763 := Int.emod_nonneg _ (by decide)
  have h3 : 0 ≤ blP cs t 2147482739 ^ 5 % 2147482739 := Int.emod_nonneg _ (by decide)
  unfold blN
  omega
theorem SrcOk.fill {s : Src} (h : SrcOk s) : SrcOk s.fill := by
  unfold Src.fill
  split
  · split
    · rename_i g r e
      exact ⟨h.2 g (by rw [e]; exact List.mem_cons_self ..), fun x hx => h.2 x (by rw [e]; exact List.mem_cons_of_mem _ hx)⟩
    · exact ⟨blN_nn _ _, h.2⟩
  · exact h
theorem SrcOk.next {s : Src} {S : Int} (hS : 0 < S) (h : SrcOk s) : SrcOk (s.next S) :=
  ⟨Int.ediv_nonneg h.fill.1 (by omega), h.fill.2⟩
theorem addP_le (ps : List Pt) (p : Pt) : ps.length ≤ (addP ps p).length := by
  unfold addP
  split
  · exact Nat.le_refl _
  · rw [List.length_append]; exact Nat.le_add_right _ _
theorem addP_mem {ps : List Pt} {p : Pt} (h : p ∈ ps) : addP ps p = ps := by unfold addP; rw [if_pos h]
theorem addP_new {ps : List Pt} {p : Pt} (h : p ∉ ps) : (addP ps p).length = ps.length + 1 := by
  unfold addP
  rw [if_neg h, List.length_append]
  rfl
/-- at last the places are enough, and the turn is at most B -/
def Fin (S r : Int) (many : Nat) (B : Int) (x : DS) : Prop := ∃ k, many ≤ (x.run S r k).ps.length ∧ (x.run S r k).s.turn ≤ B
section
variable {S r : Int} {many : Nat} {B : Int}
theorem Fin.step {x : DS} (h : Fin S r many B (x.step S r)) : Fin S r many B x :=
  let ⟨k, h1, h2⟩ := h
  ⟨k + 1, h1, h2⟩
/-- a number that gives the place, however the draws stand to it -/
structure Cert (S N X Y : Int) : Prop where
  a0 : N % S = X
  a1 : N / S % S = Y
  l1 : N / S ≠ 0
  or : (N / S / S ≠ 0 ∧ N / S % S = X ∧ N / S / S % S = Y) ∨ (N / S / S / S ≠ 0 ∧ N / S / S / S / S ≠ 0 ∧ N / S / S / S % S = X ∧ N / S / S / S / S % S = Y)
theorem step_fill {cs : List Int} {T : Int} {p : Option Int} {ps : List Pt} (hN : blN cs T ≠ 0) : DS.step S r ⟨⟨[], cs, 0, T - 1⟩, p, ps⟩ = DS.step S r ⟨⟨[], cs, blN cs T, T⟩, p, ps⟩ := by
  have e : (Src.mk [] cs 0 (T - 1)).fill = (Src.mk [] cs (blN cs T) T).fill := by
    unfold Src.fill
    rw [if_pos rfl, if_neg hN]
    show Src.mk [] cs (blN cs (T - 1 + 1)) (T - 1 + 1) = _
    rw [Int.sub_add_cancel]
  unfold DS.step Src.next Src.val
  dsimp only
  rw [e]
theorem step_n {gs cs : List Int} {l T : Int} {ps : List Pt} (hl : l ≠ 0) : DS.step S r ⟨⟨gs, cs, l, T⟩, none, ps⟩ = ⟨⟨gs, cs, l / S, T⟩, some (l % S), ps⟩ := by
  unfold DS.step Src.next Src.val Src.fill
  dsimp only
  rw [if_neg hl]
theorem step_s {gs cs : List Int} {l T u : Int} {ps : List Pt} (hl : l ≠ 0) : DS.step S r ⟨⟨gs, cs, l, T⟩, some u, ps⟩ = ⟨⟨gs, cs, l / S, T⟩, none, addP ps (u - r, l % S - r)⟩ := by
  unfold DS.step Src.next Src.val Src.fill
  dsimp only
  rw [if_neg hl]
theorem fin_pair {cs : List Int} {l T : Int} {ps : List Pt} (h1 : l ≠ 0) (h2 : l / S ≠ 0) (h : Fin S r many B ⟨⟨[], cs, l / S / S, T⟩, none, addP ps (l % S - r, l / S % S - r)⟩) : Fin S r many B ⟨⟨[], cs, l, T⟩, none, ps⟩ := by
  refine Fin.step ?_
  rw [step_n h1]
  refine Fin.step ?_
  rw [step_s h2]
  exact h
theorem nz_of {l : Int} (h : l / S ≠ 0) : l ≠ 0 := fun z => h (by rw [z, Int.zero_ediv])
/-- at the good turn -/
theorem fin_turn {cs : List Int} {T X Y : Int} {p : Option Int} {ps : List Pt} (C : Cert S (blN cs T) X Y) (hS : 0 < S) (hm : (X - r, Y - r) ∉ ps)
    (IH : ∀ y : DS, SrcOk y.s → y.s.cs = cs → ps.length < y.ps.length → y.s.turn ≤ T → Fin S r many B y) : Fin S r many B ⟨⟨[], cs, 0, T - 1⟩, p, ps⟩ := by
  have hN := nz_of C.l1
  have h0 : 0 ≤ blN cs T := blN_nn _ _
  have nn {a : Int} (h : 0 ≤ a) : 0 ≤ a / S := Int.ediv_nonneg h (by omega)
  have fin (l : Int) (h : 0 ≤ l) (h1 : l ≠ 0) (h2 : l / S ≠ 0) (hX : l % S = X) (hY : l / S % S = Y) : Fin S r many B ⟨⟨[], cs, l, T⟩, none, ps⟩ := by
    refine fin_pair h1 h2 (IH _ ⟨nn (nn h), fun x hx => by cases hx⟩ rfl ?_ (Int.le_refl _))
    show ps.length < (addP ps _).length
    rw [hX, hY, addP_new hm]
    omega
  have grow (l : Int) (h : 0 ≤ l) (q : Pt) (k : Fin S r many B ⟨⟨[], cs, l, T⟩, none, ps⟩) : Fin S r many B ⟨⟨[], cs, l, T⟩, none, addP ps q⟩ := by
    by_cases hq : q ∈ ps
    · rw [addP_mem hq]
      exact k
    · exact IH _ ⟨h, fun x hx => by cases hx⟩ rfl (by show ps.length < (addP ps q).length; rw [addP_new hq]; omega) (Int.le_refl _)
  refine Fin.step ?_
  rw [step_fill hN]
  cases p with
  | none =>
    have f := fin _ h0 hN C.l1 C.a0 C.a1
    rw [step_n hN]
    refine Fin.step ?_
    rw [step_s C.l1]
    refine IH _ ⟨nn (nn h0), fun x hx => by cases hx⟩ rfl ?_ (Int.le_refl _)
    show ps.length < (addP ps _).length
    rw [C.a0, C.a1, addP_new hm]
    omega
  | some u =>
    rw [step_s hN]
    refine grow _ (nn h0) _ ?_
    rcases C.or with ⟨h2, hX, hY⟩ | ⟨h3, h4, hX, hY⟩
    · exact fin _ (nn h0) C.l1 h2 hX hY
    · exact fin_pair C.l1 (nz_of h3) (grow _ (nn (nn (nn h0))) _ (fin _ (nn (nn (nn h0))) h3 h4 hX hY))
/-- it comes to the good turn, or has grown before -/
theorem fin_reach {cs : List Int} {T : Int} (hS : 1 < S) {ps : List Pt}
    (IH : ∀ y : DS, SrcOk y.s → y.s.cs = cs → ps.length < y.ps.length → y.s.turn ≤ T → Fin S r many B y)
    (K : ∀ p, Fin S r many B ⟨⟨[], cs, 0, T - 1⟩, p, ps⟩) : ∀ (n m : Nat) (s : Src) (p : Option Int), SrcOk s → s.cs = cs → s.turn < T → s.gs.length + (T - s.turn).toNat ≤ n → s.left.toNat ≤ m → Fin S r many B ⟨s, p, ps⟩ := by
  intro n
  induction n with
  | zero =>
    intro m s p h0 h1 h2 h3
    omega
  | succ n ihn =>
    intro m
    induction m with
    | zero =>
      intro s p h0 h1 h2 h3 h4
      obtain ⟨gs, cs', l, t⟩ := s
      have hl : l = 0 := by have := h0.1; dsimp only at this h4; omega
      subst hl
      have e : cs' = cs := h1
      subst e
      have h2 : t < T := h2
      have h3 : gs.length + (T - t).toNat ≤ n + 1 := h3
      have ok : SrcOk ((Src.mk gs cs' 0 t).next S) := h0.next (by omega)
      have go (hc : ((Src.mk gs cs' 0 t).next S).cs = cs') (ht : ((Src.mk gs cs' 0 t).next S).turn < T) (hn : ((Src.mk gs cs' 0 t).next S).gs.length + (T - ((Src.mk gs cs' 0 t).next S).turn).toNat ≤ n) : Fin S r many B ⟨⟨gs, cs', 0, t⟩, p, ps⟩ := by
        refine Fin.step ?_
        cases p with
        | none => exact ihn _ _ _ ok hc ht hn (Nat.le_refl _)
        | some u =>
          show Fin S r many B ⟨_, none, addP ps _⟩
          by_cases hq : (u - r, (Src.mk gs cs' 0 t).val S - r) ∈ ps
          · rw [addP_mem hq]
            exact ihn _ _ _ ok hc ht hn (Nat.le_refl _)
          · exact IH _ ok hc (by show ps.length < (addP ps _).length; rw [addP_new hq]; omega) (by show ((Src.mk gs cs' 0 t).next S).turn ≤ T; omega)
      cases gs with
      | cons g gr =>
        exact go rfl h2 (by show gr.length + (T - t).toNat ≤ n; rw [List.length_cons] at h3; omega)
      | nil =>
        by_cases e : t = T - 1
        · rw [e]
          exact K p
        · exact go rfl (by show t + 1 < T; omega) (by show 0 + (T - (t + 1)).toNat ≤ n; rw [List.length_nil] at h3; omega)
    | succ m ihm =>
      intro s p h0 h1 h2 h3 h4
      obtain ⟨gs, cs', l, t⟩ := s
      by_cases hl : l = 0
      · subst hl
        exact ihm _ p h0 h1 h2 h3 (by show (0 : Int).toNat ≤ m; exact Nat.zero_le _)
      · have h00 : 0 ≤ l := h0.1
        have hd : l / S < l := by
          have := Int.ediv_lt_self_of_pos_of_ne_one (x := l) (y := S) (by omega) (by omega)
          exact this
        have hd0 : 0 ≤ l / S := Int.ediv_nonneg h00 (by omega)
        have h4 : l.toNat ≤ m + 1 := h4
        have ok : SrcOk ⟨gs, cs', l / S, t⟩ := ⟨hd0, h0.2⟩
        refine Fin.step ?_
        cases p with
        | none =>
          rw [step_n hl]
          exact ihm _ _ ok h1 h2 h3 (by show (l / S).toNat ≤ m; omega)
        | some u =>
          rw [step_s hl]
          by_cases hq : (u - r, l % S - r) ∈ ps
          · rw [addP_mem hq]
            exact ihm _ _ ok h1 h2 h3 (by show (l / S).toNat ≤ m; omega)
          · exact IH _ ok h1 (by show ps.length < (addP ps _).length; rw [addP_new hq]; omega) (by show t ≤ T; have : t < T := h2; omega)
/-- a table of certificates is good -/
def certB (S : Int) (c : Int × Int × Int × Int × Int) : Bool :=
  let N := cN c.1 c.2.1 c.2.2.1
  let X := c.2.2.2.1
  let Y := c.2.2.2.2
  decide (N % S = X) && decide (N / S % S = Y) && decide (N / S ≠ 0) &&
    ((decide (N / S / S ≠ 0) && decide (N / S % S = X) && decide (N / S / S % S = Y)) || (decide (N / S / S / S ≠ 0) && decide (N / S / S / S / S ≠ 0) && decide (N / S / S / S % S = X) && decide (N / S / S / S / S % S = Y)))
theorem cert_of {S : Int} {c : Int × Int × Int × Int × Int} (h : certB S c = true) : Cert S (cN c.1 c.2.1 c.2.2.1) c.2.2.2.1 c.2.2.2.2 := by
  unfold certB at h
  simp only [Bool.and_eq_true, Bool.or_eq_true, decide_eq_true_eq] at h
  obtain ⟨⟨⟨h1, h2⟩, h3⟩, h4⟩ := h
  refine ⟨h1, h2, h3, ?_⟩
  rcases h4 with ⟨⟨a, b⟩, c⟩ | ⟨⟨⟨a, b⟩, c⟩, d⟩
  · exact .inl ⟨a, b, c⟩
  · exact .inr ⟨a, b, c, d⟩
theorem some_new {l : List Pt} (hd : l.Nodup) : ∀ {ps : List Pt}, ps.length < l.length → ∃ p ∈ l, p ∉ ps := by
  induction l with
  | nil => intro ps h; cases h
  | cons a l ih =>
    intro ps h
    by_cases ha : a ∈ ps
    · have hl := List.length_erase_of_mem ha
      have h0 : 0 < ps.length := by
        cases ps with
        | nil => cases ha
        | cons _ _ => exact Nat.succ_pos _
      rw [List.length_cons] at h
      obtain ⟨p, hp, hn⟩ := ih (List.nodup_cons.mp hd).2 (ps := ps.erase a) (by omega)
      refine ⟨p, List.mem_cons_of_mem _ hp, fun hp' => hn ?_⟩
      refine (List.mem_erase_of_ne ?_).mpr hp'
      rintro rfl
      exact (List.nodup_cons.mp hd).1 hp
    · exact ⟨a, List.mem_cons_self .., ha⟩
/-- the places of a table -/
def certPs (r : Int) (l : List (Int × Int × Int × Int × Int)) : List Pt := l.map fun c => (c.2.2.2.1 - r, c.2.2.2.2 - r)
structure Tab (S r : Int) (l : List (Int × Int × Int × Int × Int)) : Prop where
  all : l.all (certB S) = true
  nd : (certPs r l).Nodup
  len : l.length = 7
  two : 1 < S
theorem fin_all {l : List (Int × Int × Int × Int × Int)} (W : Tab S r l) (hm : many ≤ 7) : ∀ (n : Nat) (x : DS), SrcOk x.s → x.s.cs.length ≤ 63 → many ≤ x.ps.length + n → x.s.turn + n * cPP ≤ B → Fin S r many B x := by
  intro n
  induction n with
  | zero =>
    intro x _ _ h1 h2
    exact ⟨0, by show many ≤ x.ps.length; omega, by show x.s.turn ≤ B; omega⟩
  | succ n ih =>
    intro x h0 hc h1 h2
    have h2' : x.s.turn + n * cPP + cPP ≤ B := by
      have : ((n + 1 : Nat) : Int) * cPP = n * cPP + cPP := by
        rw [Int.natCast_add, Int.add_mul]
        rfl
      omega
    have hpp : 0 ≤ (n : Int) * cPP := Int.mul_nonneg (Int.natCast_nonneg _) (by decide)
    by_cases hlen : many ≤ x.ps.length
    · exact ⟨0, hlen, by show x.s.turn ≤ B; have : (0 : Int) ≤ cPP := by decide
                         omega⟩
    · obtain ⟨q, hq, hn⟩ := some_new W.nd (ps := x.ps) (by show x.ps.length < (l.map _).length; rw [List.length_map, W.len]; omega)
      obtain ⟨c, hcl, rfl⟩ := List.mem_map.mp hq
      have C := cert_of (List.all_eq_true.mp W.all c hcl)
      obtain ⟨T, t1, t2, eT⟩ := turn_for hc x.s.turn c.1 c.2.1 c.2.2.1
      rw [← eT] at C
      have IH : ∀ y : DS, SrcOk y.s → y.s.cs = x.s.cs → x.ps.length < y.ps.length → y.s.turn ≤ T → Fin S r many B y := fun y k0 k1 k2 k3 => ih y k0 (by rw [k1]; exact hc) (by omega) (by omega)
      have hS := W.two
      exact fin_reach W.two IH (fun p => fin_turn C (by omega) hn IH) _ _ x.s x.pend h0 rfl t1 (Nat.le_refl _) (Nat.le_refl _)
end
/-! the loop: two draws a round -/
/-- k rounds are left, and the turn stays at B or below -/
def Rounds (S r : Int) (many : Nat) (B : Int) : Nat → Src → List Pt → Prop
  | 0, s, ps => many ≤ ps.length ∧ s.turn ≤ B
  | k + 1, s, ps => ps.length < many ∧ Rounds S r many B k ((s.next S).next S) (addP ps (s.val S - r, (s.next S).val S - r))
theorem next_turn_le (s : Src) (S : Int) : s.turn ≤ (s.next S).turn := by
  unfold Src.next Src.fill
  split
  · split
    · exact Int.le_refl _
    · show s.turn ≤ s.turn + 1
      omega
  · exact Int.le_refl _
theorem run_turn_le (S r : Int) : ∀ (k : Nat) (x : DS), x.s.turn ≤ (x.run S r k).s.turn
  | 0, x => Int.le_refl _
  | k + 1, x => by
    refine Int.le_trans ?_ (run_turn_le S r k (x.step S r))
    obtain ⟨s, p, ps⟩ := x
    cases p with
    | none => exact next_turn_le s S
    | some u => exact next_turn_le s S
theorem rounds_of {S r : Int} {many : Nat} {B : Int} : ∀ (n k : Nat) (s : Src) (ps : List Pt), k ≤ n → many ≤ ((DS.mk s none ps).run S r k).ps.length → ((DS.mk s none ps).run S r k).s.turn ≤ B → ∃ j, Rounds S r many B j s ps := by
  intro n
  induction n with
  | zero =>
    intro k s ps hk h1 h2
    have : k = 0 := by omega
    subst this
    exact ⟨0, h1, h2⟩
  | succ n ih =>
    intro k s ps hk h1 h2
    by_cases hl : many ≤ ps.length
    · exact ⟨0, hl, Int.le_trans (run_turn_le S r k ⟨s, none, ps⟩) h2⟩
    · match k, hk, h1, h2 with
      | 0, _, h1, _ => exact absurd h1 hl
      | 1, _, h1, _ => exact absurd h1 hl
      | k + 2, hk, h1, h2 =>
        obtain ⟨j, hj⟩ := ih k ((s.next S).next S) (addP ps (s.val S - r, (s.next S).val S - r)) (by omega) h1 h2
        exact ⟨j + 1, by omega, hj⟩
theorem Rounds.le {S r : Int} {many : Nat} {B : Int} : ∀ {k : Nat} {s : Src} {ps : List Pt}, Rounds S r many B k s ps → s.turn ≤ B
  | 0, _, _, h => h.2
  | _ + 1, s, _, h => Int.le_trans (Int.le_trans (next_turn_le s S) (next_turn_le _ S)) (Rounds.le h.2)
/-- the five reaches of the laws -/
theorem tab3 : Tab 3 1 cert3 := ⟨by decide +kernel, by decide +kernel, rfl, by decide⟩
theorem tab5 : Tab 5 2 cert5 := ⟨by decide +kernel, by decide +kernel, rfl, by decide⟩
theorem tab7 : Tab 7 3 cert7 := ⟨by decide +kernel, by decide +kernel, rfl, by decide⟩
theorem tab19 : Tab 19 9 cert19 := ⟨by decide +kernel, by decide +kernel, rfl, by decide⟩
theorem tab1000001 : Tab 1000001 500000 cert1000001 := ⟨by decide +kernel, by decide +kernel, rfl, by decide⟩
/-- a reach of which the loop comes to its end -/
def ReachOk (r : Int) : Prop := ∃ l, Tab (2 * r + 1) r l
theorem reach_ok {r : Int} (h : r = 1 ∨ r = 2 ∨ r = 3 ∨ r = 9 ∨ r = 500000) : ReachOk r := by
  rcases h with rfl | rfl | rfl | rfl | rfl
  · exact ⟨_, tab3⟩
  · exact ⟨_, tab5⟩
  · exact ⟨_, tab7⟩
  · exact ⟨_, tab19⟩
  · exact ⟨_, tab1000001⟩
theorem rounds {r : Int} (h : ReachOk r) {many : Nat} (hm : many ≤ 7) {s : Src} (h0 : SrcOk s) (hc : s.cs.length ≤ 63) : ∃ j, Rounds (2 * r + 1) r many (s.turn + 7 * cPP) j s [] := by
  obtain ⟨l, W⟩ := h
  obtain ⟨k, k1, k2⟩ := fin_all (B := s.turn + 7 * cPP) W hm 7 ⟨s, none, []⟩ h0 hc (by show many ≤ 0 + 7; omega) (by show s.turn + ((7 : Nat) : Int) * cPP ≤ _; exact Int.le_refl _)
  exact rounds_of k k s [] (Nat.le_refl _) k1 k2
end My
/-! _law_st_drawing -/
namespace My
open PySem PySem.Spec PyProof.Rows L2 Evl
theorem dp_prs {K : PySem.W.Frag} {H : Hp} : ∀ {xs ps}, PrL H xs ps → DpAll K H xs (ps.map fun p => PyData.tuple [.int p.1, .int p.2])
  | _, _, .nil => .nil
  | _, _, .cons ⟨t, e, ht⟩ r => by
    subst e
    exact .cons (.tup (SqT.of ht) (.cons (.int _) (.cons (.int _) .nil))) (dp_prs r)
theorem prs_lay : ∀ ps : List Pt, PyData.canLayAll0 (ps.map fun p => PyData.tuple [.int p.1, .int p.2]) = true
  | [] => by simp [PyData.canLayAll0]
  | p :: r => by
    have h := prs_lay r
    simp [PyData.canLayAll0, PyData.canLay0, h]
theorem prs_depth : ∀ ps : List Pt, PyData.depthAll (ps.map fun p => PyData.tuple [.int p.1, .int p.2]) ≤ 1
  | [] => by simp [PyData.depthAll]
  | p :: r => by
    have h := prs_depth r
    simp [PyData.depthAll, PyData.depth]
    exact Nat.max_le.mpr ⟨Nat.le_refl _, h⟩
theorem prs_shaped (ps : List Pt) : SeqAt.shaped (.list (ps.map fun p => PyData.tuple [.int p.1, .int p.2])) = true := by
  have h5 : PyData.canLay0 (.list (ps.map fun p => PyData.tuple [.int p.1, .int p.2])) = true := by unfold PyData.canLay0; exact prs_lay ps
  have h6 : PyData.depth (.list (ps.map fun p => PyData.tuple [.int p.1, .int p.2])) ≤ 2 := by
    show PyData.depthAll _ + 1 ≤ 2
    have := prs_depth ps
    omega
  unfold SeqAt.shaped
  rw [h5, decide_eq_true (Nat.le_trans h6 (by decide))]
  rfl
theorem any_pair (p : Pt) : ∀ ps : List Pt, ((ps.map fun p => PyData.tuple [.int p.1, .int p.2]).any fun z => PyData.eqv z (.tuple [.int p.1, .int p.2])) = decide (p ∈ ps)
  | [] => rfl
  | q :: r => by
    rw [List.map_cons, List.any_cons, any_pair p r, eqv_pair, Bool.eq_iff_iff, Bool.or_eq_true, decide_eq_true_eq, decide_eq_true_eq, decide_eq_true_eq, List.mem_cons]
    exact or_congr eq_comm Iff.rfl
theorem room65 {k : Nat} {A : Around} (r : Room k A) : A.units + 65 < cLine := by have := r.un; omega
/-- place not in places -/
theorem rv_niP {K : PySem.W.Frag} {H : Hp} {x : V} {p : Pt} {l : Addr} {xs : List V} {ps : List Pt} (hx : PairV H x p) (hl : H l = some (.lst xs)) (hp : PrL H xs ps) : RV (rNotInD K) x (.ref l) H (.bl (!decide (p ∈ ps))) := by
  obtain ⟨t, rfl, ht⟩ := hx
  exact rv_val fun H1 e Q k => ⟨.tuple [.int p.1, .int p.2], _, .tup (SqT.of (e _ _ ht)) (.cons (.int _) (.cons (.int _) .nil)), .lst (SqL.of (e _ _ hl)) (dp_prs (hp.up e)), by simp [SeqAt.shaped, PyData.canLay0, PyData.canLayAll0, PyData.depth, PyData.depthAll], prs_shaped ps, by rw [any_pair]; exact k⟩
/-- an own object is written -/
theorem StX.own {H : Hp} {d g c l : Addr} {s : Src} {o : HO} (h : StX H d g c s) (n1 : l ≠ d) (n2 : l ≠ g) (n3 : l ≠ c) : StX (upd H l o) d g c s :=
  ⟨(upd_ne n1.symm).trans h.1, (upd_ne n2.symm).trans h.2.1, (upd_ne n3.symm).trans h.2.2.1, h.2.2.2⟩
theorem Kp.own {H H' : Hp} {d g l : Addr} {o : HO} (k : Kp d g H H') (hl : H l = none) : Kp d g H (upd H' l o) := fun b x h1 h2 h => (upd_ne (ne_of_none h hl)).trans (k b x h1 h2 h)
/-- l[j] of a list of pairs -/
theorem ev_placeL {K : PySem.W.Frag} {σ : L2.St} {H : Hp} {te : TE} {i : Nat} {a : Addr} {xs : List V} {ps : List Pt} {j : Int} (h : σ[i]? = some (some (.ref a))) (hx : H a = some (.lst xs)) (hp : PrL H xs ps) (hj : Ev te σ H (.int j)) (h0 : 0 ≤ j) (h1 : j < ps.length) :
    ∃ x, Ev (tOp (rIxL K) (tVar i) te) σ H x ∧ PairV H x (atP ps j) := by
  have hl := hp.len
  have hi : j.toNat < xs.length := by omega
  obtain ⟨p, h2, h3⟩ := hp.get j.toNat xs[j.toNat] (List.getElem?_eq_getElem hi)
  refine ⟨xs[j.toNat], ev_op (ev_var h) hj (rv_ixL (SqL.of hx) ?_), ?_⟩
  · have e : j = ((j.toNat : Nat) : Int) := by omega
    have q := atI_nat (List.getElem?_eq_getElem hi)
    rw [← e] at q
    exact q
  · unfold atP
    rw [List.getD_eq_getElem?_getD, h2]
    exact h3
/-- xs == [] -/
theorem et_eqN {K : PySem.W.Frag} {σ : L2.St} {H : Hp} {i : Nat} {l : Addr} {xs : List V} (hi : σ[i]? = some (some (.ref l))) (hl : H l = some (.lst xs)) (hx : ∀ x ∈ xs, ItemD H x) : EvT (tTest (tOp (rEqD K) (tVar i) (tLst tNil))) σ H xs.isEmpty :=
  et_test (ev_opL (ev_var hi) (el_lst ea_nil (Nat.zero_le _)) fun p H1 hp e1 => rv_val fun H2 e2 Q q => by
    obtain ⟨ds, h1, h2, h3, h4⟩ := dp_items (K := K) (H := H2) (xs := xs) fun x m => (hx x m).up (e1.trans e2)
    have s1 : SeqAt.shaped (.list ds) = true := by
      have h5 : PyData.canLay0 (.list ds) = true := by unfold PyData.canLay0; exact h3
      have h6 : PyData.depth (.list ds) ≤ 2 := by
        show PyData.depthAll ds + 1 ≤ 2
        omega
      unfold SeqAt.shaped
      rw [h5, decide_eq_true (Nat.le_trans h6 (by decide))]
      rfl
    refine ⟨.list ds, .list [], Dp.lst (SqL.of ((e1.trans e2) _ _ hl)) h1, Dp.lst (SqL.of (e2 _ _ hp)) .nil, s1, by decide, ?_⟩
    rw [eqv_nil, show ds.isEmpty = xs.isEmpty by cases ds <;> cases xs <;> simp_all]
    exact q)
theorem PrL.kpl {H H' : Hp} {l : Addr} {ys : List V} (k : Kp l l H H') (hl : H l = some (.lst ys)) : ∀ {xs ps}, PrL H xs ps → PrL H' xs ps
  | _, _, .nil => .nil
  | _, _, .cons h r => .cons (h.kp k (fun _ z => by rw [hl] at z; cases z) (fun _ z => by rw [hl] at z; cases z)) (PrL.kpl k hl r)
/-- places within reach -/
def Within (r : Int) (p : Pt) : Prop := -r ≤ p.1 ∧ p.1 ≤ r ∧ -r ≤ p.2 ∧ p.2 ≤ r
theorem Within.sm {r : Int} {p : Pt} (h : Within r p) (hr : r ≤ 1000000) : Sm p := by
  obtain ⟨h1, h2, h3, h4⟩ := h
  exact ⟨by omega, by omega, by omega, by omega⟩
section
variable {P : Program} {w : World} {K : PySem.W.Frag} {mg : Str → Option Value} {base : Heap}
def spDrawing (K : PySem.W.Frag) : Sp := fun vs H Q _ => ∃ (d g c : Addr) (s : Src) (most r : Int), vs = [.ref d, .int most, .int r] ∧ StX H d g c s ∧ 0 ≤ s.turn ∧ s.turn < 2 ^ 890 ∧ s.cs.length ≤ 63 ∧ 1 ≤ most ∧ most ≤ 7 ∧ ReachOk r ∧ 1 ≤ r ∧ r ≤ 1000000 ∧
  ∀ (H' : Hp) (s' : Src) (T ta pa : Addr) (txs xs : List V) (m : Nat) (ks : List (Int × Int)) (ps : List Pt), StX H' d g c s' → s'.cs = s.cs → s.turn ≤ s'.turn → s'.turn ≤ s.turn + 2 ^ 100 → Kp d g H H' → H' T = some (.tup [.int (m : Int), .ref ta, .ref pa]) → H' ta = some (.tup txs) → PrL H' txs ks → OkNet (m : Int) ks →
    H' pa = some (.tup xs) → PrL H' xs ps → ps.length = m → 1 ≤ m → (m : Int) ≤ most → (∀ p ∈ ps, Within r p) → Q (.ref T) H'
theorem scSd : FnScope ["state", "most", "reach", "many", "places_here", "place", "some", "ties", "one", "other", "tie", "ends_here", "bad", "point"] ["state", "most", "reach"] (defScope s_law_st_drawing) := ⟨rfl, rfl, rfl, by decide +kernel, rfl, by decide +kernel, by decide +kernel⟩
theorem ok_drawing {f fM fD fB fP fO fT fMe : Addr} {fd fdM fdD fdB fdP fdO fdT fdMe : FuncData} (F : Fun K "_law_st_drawing" "_law_st_drawing" s_law_st_drawing f fd) (B : DrB mg) (M : MxB mg) (T : TyB mg) (FB : Fun K "_law_blended" "_law_blended" sBlended fB fdB) (mgB : mg "_law_blended" = some (.ref fB))
    (FD : Fun K "_law_draw" "_law_draw" sDraw fD fdD) (mgD : mg "_law_draw" = some (.ref fD)) (FP : Fun K "_law_pick" "_law_pick" sPick fP fdP) (mgP : mg "_law_pick" = some (.ref fP)) (FM : Fun K "_law_mixed" "_law_mixed" s_law_mixed fM fdM) (mgM : mg "_law_mixed" = some (.ref fM))
    (FO : Fun K "_law_st_on" "_law_st_on" s_law_st_on fO fdO) (mgO : mg "_law_st_on" = some (.ref fO)) (FMe : Fun K "_law_st_meet" "_law_st_meet" s_law_st_meet fMe fdMe) (mgMe : mg "_law_st_meet" = some (.ref fMe)) (FT : Fun K "_law_st_side" "_law_st_side" s_law_st_side fT fdT) (mgT : mg "_law_st_side" = some (.ref fT)) :
    FnOk P w K mg base CX0 4 f fd ["state", "most", "reach"] (spDrawing K) := by
  have GD : FnOk P w K mg base CX0 2 fD fdD ["state", "size_here"] spDraw := ok_draw FD B FB mgB
  have bD : Binds K fdD ["state", "size_here"] [] := FD.binds (ps := ["state", "size_here"]) fun _ _ _ _ _ _ us hl => match us, hl with | [_, _], _ => rfl
  have GP : FnOk P w K mg base CX0 3 fP fdP ["state", "several"] spPick := ok_pick FP B FB mgB FD mgD
  have bP : Binds K fdP ["state", "several"] [] := FP.binds (ps := ["state", "several"]) fun _ _ _ _ _ _ us hl => match us, hl with | [_, _], _ => rfl
  have GM : FnOk P w K mg base CX0 3 fM fdM ["state", "several"] (spMixed K) := ok_mixed FM B M FB mgB FD mgD
  have bM : Binds K fdM ["state", "several"] [] := FM.binds (ps := ["state", "several"]) fun _ _ _ _ _ _ us hl => match us, hl with | [_, _], _ => rfl
  have GO : FnOk P w K mg base CX0 2 fO fdO ["place", "one", "other"] (spTri fun p a b => .bl (onZ p a b)) := ok_on FO FT mgT
  have bO : Binds K fdO ["place", "one", "other"] [] := FO.binds (ps := ["place", "one", "other"]) fun _ _ _ _ _ _ us hl => match us, hl with | [_, _, _], _ => rfl
  have GMe : FnOk P w K mg base CX0 3 fMe fdMe ["one", "other", "third", "fourth"] spMeet := ok_meet FMe FO mgO FT mgT
  have bMe : Binds K fdMe ["one", "other", "third", "fourth"] [] := FMe.binds (ps := ["one", "other", "third", "fourth"]) fun _ _ _ _ _ _ us hl => match us, hl with | [_, _, _, _], _ => rfl
  refine F.ok scSd (fun vs H Q E h => ?_) (fun cdv A outer s H vs Q E hr h => ?_)
  · obtain ⟨d, g, c, s0, most, r, rfl, _⟩ := h
    rfl
  · obtain ⟨d, g, c, s0, most, r, rfl, hst, t0, t1, hcl, m1, m2, hR, r1, r2, k⟩ := h
    have hr2 := hr.mono (show 2 ≤ 3 by decide)
    refine ⟨_, pss_cons (ps_asg (pe_tup (pa_cons (pe_op op_add pe_int (pe_call GD hr2 (by rfl) mgD FD.kp bD .nil pass0 (pa_cons (pv 0) (pa_cons (pv 1) pa_nil)))) (pa_cons (pe_lst pa_nil) pa_nil))) (pg_tup rfl (pgs_cons (pg_name (i := 3) scSd.nd rfl (Or.inl rfl)) (pgs_cons (pg_name (i := 4) scSd.nd rfl (Or.inr rfl)) pgs_nil))) (by rfl) (by rfl))
      (pss_cut (ps_while PassesOwn.never (pt_cmpR op_lt (pe_callB call_len_seq (by rfl) B.len PySem.boot_len (pa_cons (pv 4) pa_nil)) (pv 3) (nomark _))
        (pss_cons (ps_set (i := 5) scSd.nd rfl (Or.inl rfl) (pe_tup (pa_cons (pe_op op_sub (pe_call GD hr2 (by rfl) mgD FD.kp bD .nil pass0 (pa_cons (pv 0) (pa_cons (pe_op op_add (pe_op op_mul pe_int (pv 2)) pe_int) pa_nil))) (pv 2))
          (pa_cons (pe_op op_sub (pe_call GD hr2 (by rfl) mgD FD.kp bD .nil pass0 (pa_cons (pv 0) (pa_cons (pe_op op_add (pe_op op_mul pe_int (pv 2)) pe_int) pa_nil))) (pv 2)) pa_nil))))
        (pss_one (ps_if (pt_cmpR (op_notInD (room65 hr)) (pv 5) (pv 4) (by rfl)) (pss_one (ps_expr (pe_bm PySem.F.plainAttrs_list PySem.F.slot_list_append PySem.F.type_list_append mt_append (pv 4) (pa_cons (pv 5) pa_nil)))) pss_nil))))
      (pss_cons (ps_par (i := 6) (j := 7) rfl scSd.nd rfl rfl (by decide) rfl rfl (pa_cons (pe_lst pa_nil) (pa_cons (pe_lst pa_nil) pa_nil)) (by rfl))
      (pss_cons (ps_for PassesOwn.never rfl (pi_range1 (by rfl) T.rng (pa_cons (pv 3) pa_nil)) (pg_name (i := 8) scSd.nd rfl (Or.inr rfl))
        (pss_one (ps_set (i := 6) scSd.nd rfl (Or.inl rfl) (pe_op op_cat (pv 6) (pe_lc (own := [("other", 9)]) (g := gName 9) rfl scSd.nd (pi_range2 (by rfl) T.rng (pa_cons (pe_op op_add (pv 8) pe_int) (pa_cons (pv 3) pa_nil))) (blkOk_by (N := ["state", "most", "reach", "many", "places_here", "place", "some", "ties", "one", "other", "tie", "ends_here", "bad", "point"]) (sc := defScope s_law_st_drawing) (by decide +kernel))
          (fun _ _ _ _ _ => pg_name (i := 9) scSd.nd rfl (Or.inl rfl)) (fun _ _ _ _ _ => pts_nil) (fun _ _ _ _ _ => pe_tup (pa_cons (pe_var (i := 8) rfl (Or.inr (Or.inl (by rfl)))) (pa_cons (pv 9) pa_nil))))))))
      (pss_cons (ps_for PassesOwn.never rfl (pi_list (pe_slice sl_list (pe_call GM hr (by rfl) mgM FM.kp bM .nil pass0 (pa_cons (pv 0) (pa_cons (pv 6) pa_nil))) po_none (po_some (pe_call GP hr (by rfl) mgP FP.kp bP .nil pass0 (pa_cons (pv 0) (pa_cons (pe_lst (pa_cons (pv 3) (pa_cons (pe_op op_mul pe_int (pv 3)) (pa_cons pe_int pa_nil)))) pa_nil)))))) (pg_name (i := 10) scSd.nd rfl (Or.inr rfl))
        (pss_cons (ps_set (i := 11) scSd.nd rfl (Or.inr rfl) (pe_lst (pa_cons (pe_ix ix_list (pv 4) (pe_ix ix_tup (pv 10) pe_int (fun _ _ => rfl)) (fun _ _ => rfl)) (pa_cons (pe_ix ix_list (pv 4) (pe_ix ix_tup (pv 10) pe_int (fun _ _ => rfl)) (fun _ _ => rfl)) pa_nil))))
        (pss_cons (ps_setLc (i := 12) (own := [("point", 13)]) (g := gName 13) rfl scSd.nd rfl rfl (sw_true rfl rfl rfl (by decide +kernel)) (pi_range1 (by rfl) T.rng (pa_cons (pv 3) pa_nil)) (blkOk_by (N := ["state", "most", "reach", "many", "places_here", "place", "some", "ties", "one", "other", "tie", "ends_here", "bad", "point"]) (sc := defScope s_law_st_drawing) (by decide +kernel))
          (fun _ _ _ _ _ => pg_name (i := 13) scSd.nd rfl (Or.inl rfl))
          (fun _ _ _ _ _ => pts_one (PW.pt (pw_and (pt_cmpR (r := rIn K true) op_notIn_seq (pv 13) (pe_var (i := 10) rfl (Or.inr (Or.inl (by rfl)))) (by rfl)) (pw_and1 (pt_val (pe_call GO hr2 (by rfl) mgO FO.kp bO .nil pass0 (pa_cons (pe_ix (r := rIxL K) ix_list (pe_var (i := 4) rfl (Or.inr (Or.inl (by rfl)))) (pv 13) (fun _ _ => rfl)) (pa_cons (pe_ix (r := rIxL K) ix_list (pe_var (i := 11) rfl (Or.inr (Or.inl (by rfl)))) pe_int (fun _ _ => rfl)) (pa_cons (pe_ix (r := rIxL K) ix_list (pe_var (i := 11) rfl (Or.inr (Or.inl (by rfl)))) pe_int (fun _ _ => rfl)) pa_nil)))))))))
          (fun _ _ _ _ _ => pe_int))
        (pss_cons (ps_for PassesOwn.never rfl (pi_list (pv 7)) (pg_name (i := 9) scSd.nd rfl (Or.inl rfl))
          (pss_one (ps_if (PW.pt (pw_and (pt_cmpR op_notIn_seq (pe_ix ix_tup (pv 10) pe_int (fun _ _ => rfl)) (pv 9) (by rfl)) (pw_and1 (pt_cmpR op_notIn_seq (pe_ix ix_tup (pv 10) pe_int (fun _ _ => rfl)) (pv 9) (by rfl)))))
            (pss_one (ps_if (pt_val (pe_call GMe hr (by rfl) mgMe FMe.kp bMe .nil pass0 (pa_cons (pe_ix ix_list (pv 11) pe_int (fun _ _ => rfl)) (pa_cons (pe_ix ix_list (pv 11) pe_int (fun _ _ => rfl))
                (pa_cons (pe_ix ix_list (pv 4) (pe_ix ix_tup (pv 9) pe_int (fun _ _ => rfl)) (fun _ _ => rfl)) (pa_cons (pe_ix ix_list (pv 4) (pe_ix ix_tup (pv 9) pe_int (fun _ _ => rfl)) (fun _ _ => rfl)) pa_nil)))))) (pss_one (ps_expr (pe_bm PySem.F.plainAttrs_list PySem.F.slot_list_append PySem.F.type_list_append mt_append (pv 12) (pa_cons pe_int pa_nil)))) pss_nil)) pss_nil)))
        (pss_one (ps_if (pt_cmpR (op_eqD hr.units) (pv 12) (pe_lst pa_nil) (nomark _)) (pss_one (ps_expr (pe_bm PySem.F.plainAttrs_list PySem.F.slot_list_append PySem.F.type_list_append mt_append (pv 7) (pa_cons (pv 10) pa_nil)))) pss_nil))))))
      (pss_one (ps_ret (pe_tup (pa_cons (pv 3) (pa_cons (pe_callTy call_tuple_of (by rfl) T.tup boot_tupT (pa_cons (pe_callB cr_sortedPO (by rfl) T.srt (by decide +kernel) (pa_cons (pv 7) pa_nil)) pa_nil)) (pa_cons (pe_callTy call_tuple_of (by rfl) T.tup boot_tupT (pa_cons (pv 4) pa_nil)) pa_nil)))))))))), ?_⟩
    -- many, places_here = (1 + _law_draw(state, most), [])
    refine ⟨_, rfl, _, rfl, d, g, c, s0, most, rfl, hst, t0, by omega, by omega, by omega, fun H1 st1 k1 => ⟨_, _, rfl, rfl, Nat.zero_le _, fun l hl => ⟨by show 2 ≤ sizeLine; decide, fun tt htt => g_pair (x := V.int (1 + s0.val most)) (y := V.ref l) ?_⟩⟩⟩
    obtain ⟨v0, v1⟩ := val_in s0 (show 0 < most by omega)
    obtain ⟨M0, hM0⟩ : ∃ M0 : Nat, 1 + s0.val most = (M0 : Int) := ⟨(1 + s0.val most).toNat, by omega⟩
    obtain ⟨n1, n2⟩ := next_turn s0 most
    have hS0 : (0 : Int) < 2 * r + 1 := by omega
    have hS1 : 2 * r + 1 < 1073741824 := by omega
    rw [hM0]
    have eA : Ex H1 (upd (upd H1 l (.lst [])) tt (.tup [.int (M0 : Int), .ref l])) := (Ex.new hl).trans (Ex.new htt)
    have hl4 : upd (upd H1 l (.lst [])) tt (.tup [.int (M0 : Int), .ref l]) l = some (.lst []) := (Ex.new htt) l _ upd_same
    generalize upd (upd H1 l (.lst [])) tt (.tup [.int (M0 : Int), .ref l]) = H2 at eA hl4 ⊢
    have st2 := st1.up eA
    have kp2 : Kp d g H H2 := k1.trans (Kp.of eA)
    have nld : l ≠ d := fun z => by rw [z, st1.1] at hl; cases hl
    have nlg : l ≠ g := fun z => by rw [z, st1.2.1] at hl; cases hl
    have nlc : l ≠ c := fun z => by rw [z, st1.2.2.1] at hl; cases hl
    have hlN : H l = none := by
      cases z : H l with
      | none => rfl
      | some o =>
        rw [k1 l _ nld nlg z] at hl
        cases hl
    obtain ⟨j0, hj0⟩ := rounds hR (many := M0) (by omega) (s := s0.next most) ⟨st1.2.2.2.2.1, st1.2.2.2.2.2⟩ (by rw [next_cs]; exact hcl)
    let Mid : L2.St → Hp → Prop := fun σ' H' => ∃ (s' : Src) (xs : List V) (ps : List Pt) (v5 : Option V), σ' = [some (.ref d), some (.int most), some (.int r), some (.int (M0 : Int)), some (.ref l), v5, none, none, none, none, none, none, none, none] ∧
      StX H' d g c s' ∧ s'.cs = s0.cs ∧ s0.turn ≤ s'.turn ∧ s'.turn ≤ s0.turn + 1 + 7 * cPP ∧ Kp d g H H' ∧ H' l = some (.lst xs) ∧ PrL H' xs ps ∧ ps.length = M0 ∧ ∀ p ∈ ps, Within r p
    refine q_cut (M := Mid) ?_ ?_
    · refine s_while (fun k σ' H' => ∃ (s' : Src) (xs : List V) (ps : List Pt) (v5 : Option V), σ' = [some (.ref d), some (.int most), some (.int r), some (.int (M0 : Int)), some (.ref l), v5, none, none, none, none, none, none, none, none] ∧
        StX H' d g c s' ∧ s'.cs = s0.cs ∧ s0.turn ≤ s'.turn ∧ Rounds (2 * r + 1) r M0 ((s0.next most).turn + 7 * cPP) k s' ps ∧ Kp d g H H' ∧ H' l = some (.lst xs) ∧ PrL H' xs ps ∧ ps.length ≤ M0 ∧ ∀ p ∈ ps, Within r p) j0
        ⟨s0.next most, [], [], none, rfl, st2, by rw [next_cs], n1, hj0, kp2, hl4, .nil, Nat.zero_le _, fun p hp => by cases hp⟩ ?_
      rintro m σ' H' ⟨s', xs, ps, v5, rfl, st, hcs, tlo, rd, kp, hx, hp, hle, wi⟩
      have hlx := hp.len
      have rdl := rd.le
      have rdt : s'.turn < 2 ^ 899 := by
        have : (7 : Int) * cPP < 2 ^ 100 := by decide
        omega
      refine ⟨decide (ps.length < M0), et_is (et_test (ev_op (ev_len (ev_var rfl) (SqL.of hx)) (ev_var rfl) rv_I0)) (by rw [hlx, Bool.eq_iff_iff, decide_eq_true_eq, decide_eq_true_eq]; omega), fun hb H3 e3 => ?_, fun hb H3 e3 => ?_⟩
      · have hb := of_decide_eq_true hb
        refine ⟨_, fun _ _ h => h, ?_⟩
        match m, rd with
        | 0, rd => exact absurd rd.1 (Nat.not_le_of_lt hb)
        | j + 1, rd =>
          obtain ⟨_, rd⟩ := rd
          obtain ⟨a1, a2⟩ := next_turn s' (2 * r + 1)
          obtain ⟨b1, b2⟩ := next_turn (s'.next (2 * r + 1)) (2 * r + 1)
          obtain ⟨c1, c2⟩ := val_in s' hS0
          obtain ⟨d1, d2⟩ := val_in (s'.next (2 * r + 1)) hS0
          refine ⟨_, rfl, _, rfl, _, _, rfl, rfl, Or.inl ⟨by decide, by decide⟩, _, _, rfl, rfl, d, g, c, s', 2 * r + 1, rfl, st.up e3, by omega, by omega, hS0, hS1, fun H4 st4 k4 => ⟨_, rfl, _, _, rfl, rfl, ?_⟩⟩
          refine ⟨_, rfl, _, rfl, _, _, rfl, rfl, Or.inl ⟨by decide, by decide⟩, _, _, rfl, rfl, d, g, c, s'.next (2 * r + 1), 2 * r + 1, rfl, st4, by omega, by omega, hS0, hS1, fun H5 st5 k5 => ⟨_, rfl, _, _, rfl, rfl, by show 2 ≤ sizeLine; decide, fun t ht => ?_⟩⟩
          let pt : Pt := (s'.val (2 * r + 1) - r, (s'.next (2 * r + 1)).val (2 * r + 1) - r)
          have eT : Ex H5 (upd H5 t (.tup [.int pt.1, .int pt.2])) := Ex.new ht
          have ht6 : upd H5 t (.tup [.int pt.1, .int pt.2]) t = some (.tup [.int pt.1, .int pt.2]) := upd_same
          show gName 5 (.ref t) _ (upd H5 t (.tup [.int pt.1, .int pt.2])) _
          generalize upd H5 t (.tup [.int pt.1, .int pt.2]) = H6 at eT ht6 ⊢
          have pw : Within r pt := ⟨by show -r ≤ s'.val (2 * r + 1) - r; omega, by show s'.val (2 * r + 1) - r ≤ r; omega, by show -r ≤ (s'.next (2 * r + 1)).val (2 * r + 1) - r; omega, by show (s'.next (2 * r + 1)).val (2 * r + 1) - r ≤ r; omega⟩
          have hx6 : H6 l = some (.lst xs) := eT _ _ (k5 _ _ nld nlg (k4 _ _ nld nlg (e3 _ _ hx)))
          have hp6 : PrL H6 xs ps := (PrL.kp st4 k5 (PrL.kp (st.up e3) k4 (hp.up e3))).up eT
          have kp6 : Kp d g H H6 := (((kp.trans (Kp.of e3)).trans k4).trans k5).trans (Kp.of eT)
          have st6 := st5.up eT
          refine s_when (et_test (ev_op (ev_var (i := 5) rfl) (ev_var (i := 4) rfl) (rv_niP (p := pt) ⟨t, rfl, ht6⟩ hx6 hp6))) (fun hb2 H7 e7 => ?_) (fun hb2 H7 e7 => ?_)
          · have hb2 : pt ∉ ps := of_decide_eq_false (by rw [← Bool.not_eq_true']; exact hb2)
            refine s_app (e7 _ _ hx6) (ev_var (i := 4) rfl) (ev_var (i := 5) rfl) (by omega) fun H8 e8 => ⟨j, Nat.lt_succ_self j, (s'.next (2 * r + 1)).next (2 * r + 1), xs ++ [.ref t], ps ++ [pt], some (.ref t), rfl, (st6.up (e7.trans e8)).own nld nlg nlc, by rw [next_cs, next_cs, hcs], by omega, ?_, (kp6.trans (Kp.of (e7.trans e8))).own hlN, upd_same, ?_, ?_, ?_⟩
            · have e : addP ps pt = ps ++ [pt] := if_neg hb2
              rw [← e]
              exact rd
            · exact PrL.upd (fun ys z => by rw [e8 _ _ (e7 _ _ hx6)] at z; cases z) ((hp6.up (e7.trans e8)).app (.cons ⟨t, rfl, (e7.trans e8) _ _ ht6⟩ .nil))
            · rw [List.length_append]
              exact hb
            · intro p hp
              rcases List.mem_append.mp hp with h | h
              · exact wi p h
              · rw [List.mem_singleton.mp h]
                exact pw
          · have hb2 : pt ∈ ps := by
              have h : decide (pt ∈ ps) = true := by
                cases z : decide (pt ∈ ps) with
                | true => rfl
                | false => rw [z] at hb2; cases hb2
              exact of_decide_eq_true h
            refine ⟨j, Nat.lt_succ_self j, (s'.next (2 * r + 1)).next (2 * r + 1), xs, ps, some (.ref t), rfl, st6.up e7, by rw [next_cs, next_cs, hcs], by omega, ?_, kp6.trans (Kp.of e7), e7 _ _ hx6, hp6.up e7, hle, wi⟩
            have e : addP ps pt = ps := if_pos hb2
            rw [← e]
            exact rd
      · have hb := of_decide_eq_false hb
        exact ⟨s', xs, ps, v5, rfl, st.up e3, hcs, tlo, by omega, kp.trans (Kp.of e3), e3 _ _ hx, hp.up e3, by omega, wi⟩
    · rintro σ' H3 ⟨s3, xs, ps, v5, rfl, st3, hcs3, tlo3, thi3, kp3, hx3, hp3, hpl, wi⟩
      have hlx := hp3.len
      have t3 : s3.turn < 2 ^ 891 := by
        have : (7 : Int) * cPP < 2 ^ 100 := by decide
        omega
      have hM7 : 1 ≤ M0 ∧ M0 ≤ 7 := by omega
      refine ⟨Nat.zero_le _, fun l6 hl6 => ⟨Nat.zero_le _, fun l7 hl7 => ⟨_, _, rfl, ?_⟩⟩⟩
      have eB : Ex H3 (upd (upd H3 l6 (.lst [])) l7 (.lst [])) := (Ex.new hl6).trans (Ex.new hl7)
      have h6 : upd (upd H3 l6 (.lst [])) l7 (.lst []) l6 = some (.lst []) := (Ex.new hl7) l6 _ upd_same
      have h7 : upd (upd H3 l6 (.lst [])) l7 (.lst []) l7 = some (.lst []) := upd_same
      have n7 : H3 l7 = none := fresh_back (Ex.new hl6) hl7
      generalize upd (upd H3 l6 (.lst [])) l7 (.lst []) = H4 at eB h6 h7 ⊢
      refine q_forR1 (ea_cons (ev_var rfl) ea_nil) (by omega) (fun i σ' H' => ∃ (la : Addr) (ys : List V) (v8 : Option V), σ' = [some (.ref d), some (.int most), some (.int r), some (.int (M0 : Int)), some (.ref l), v5, some (.ref la), some (.ref l7), v8, none, none, none, none, none] ∧ Ex H4 H' ∧ H' la = some (.lst ys) ∧ PrL H' ys (allP M0 i))
        (fun H5 e5 => ⟨l6, [], none, rfl, e5, e5 _ _ h6, .nil⟩) ?_ ?_
      · rintro i σ' H5 hi ⟨la, ys, v8, rfl, e5, hla, hk⟩
        have hlen := len_allP M0 i
        have hi' : i < 7 := by omega
        have hfew : i * M0 ≤ 7 * 7 := Nat.mul_le_mul (by omega) (by omega)
        have hfl := givenP_len (M0 - i - 1) (fun _ => true) fun t => ((i : Int), (i : Int) + 1 + (t : Int))
        refine s_asgP (ks := allP M0 (i + 1)) (ep_cat (ev_var rfl) hla hk (qs := fromP M0 i) (ep_lcW (n := M0 - i - 1) (Y := YFn fun t => .int ((i : Int) + 1 + (t : Int))) _ _ (by omega) (fun H6 e6 R hR => ?_) (fun t x H6 H7 ht e6 y => ?_)) (by unfold fromP; omega)) fun p zs H6 _ e6 hp6 hk6 => ⟨p, zs, _, rfl, e5.trans e6, hp6, hk6⟩
        · refine ⟨_, rfl, _, _, rfl, rfl, _, rfl, (i : Int) + 1, (M0 : Int), rfl, ⟨by omega, by omega, by omega, by omega⟩, ?_⟩
          rw [show ((M0 : Int) - ((i : Int) + 1)).toNat = M0 - i - 1 by omega]
          exact hR _ H6 (Ex.refl _) (Walk.mono walk_range (fun _ _ => trivial) fun _ _ _ _ _ _ y => y)
        · obtain ⟨rfl, rfl⟩ := y
          exact ⟨Ex.refl _, _, fun R hR => hR, rfl, fun H8 _ Q q => q H8 (Ex.refl _), fun _ => eu_tup (ea_cons (ev_var rfl) (ea_cons (ev_var rfl) ea_nil)) (by show 2 ≤ 100000; decide)⟩
      · rintro σ' H5 ⟨la, ys0, v8, rfl, e5, hla, hk⟩
        rw [show ((M0 : Int)).toNat = M0 from rfl] at hk
        have hlen := few_allP M0 (by omega)
        have hxl := hk.len
        have e35 := eB.trans e5
        have st5 := st3.up e35
        have n7d : l7 ≠ d := fun z => by rw [z, st3.1] at n7; cases n7
        have n7g : l7 ≠ g := fun z => by rw [z, st3.2.1] at n7; cases n7
        have n7c : l7 ≠ c := fun z => by rw [z, st3.2.2.1] at n7; cases n7
        have n7l : l7 ≠ l := fun z => by rw [z, hx3] at n7; cases n7
        refine ⟨_, rfl, _, rfl, d, g, c, la, s3, ys0, rfl, st5, by omega, by omega, Or.inl (SqL.of hla), fun x hx => ?_, by omega, fun H6 s6 p ys st6 hcs6 tlo6 thi6 kp6 hpN hpd hpg hp perm => ?_⟩
        · obtain ⟨q, _, hq⟩ := hk.mem x hx
          exact .inr ⟨q, hq⟩
        refine ⟨_, rfl, _, rfl, _, rfl, _, _, rfl, rfl, Or.inl ⟨by decide, by decide⟩, by show 3 ≤ sizeLine; decide, fun l9 hl9 => ⟨d, g, c, l9, s6, _, rfl, st6.up (Ex.new hl9), by omega, by omega, upd_same, (fun z => by rw [z, st6.2.1] at hl9; cases hl9), Nat.succ_pos _, (show 3 < 1000000 by decide), fun H7 x st7 kp7 hx7 => ?_⟩⟩
        obtain ⟨j, rfl⟩ : ∃ j : Nat, x = .int (j : Int) := by
          have hm := List.mem_of_getElem? hx7
          rcases List.mem_cons.mp hm with e | hm
          · exact ⟨M0, e⟩
          · rcases List.mem_cons.mp hm with e | hm
            · exact ⟨3 * M0, e.trans (congrArg V.int (by omega))⟩
            · exact ⟨99, List.mem_singleton.mp hm⟩
        obtain ⟨a1, a2⟩ := next_turn s6 3
        have e69 : Ex H6 (upd H6 l9 (.lst [.int (M0 : Int), .int (3 * (M0 : Int)), .int 99])) := Ex.new hl9
        have st69 := st6.up e69
        refine ⟨_, rfl, p, ys, rfl, SqL.of (kp7 _ _ hpd hpg (e69 _ _ hp)), fun q hq => ?_⟩
        rw [cut_to]
        have hk7 : PrL H7 ys0 (allP M0 M0) := PrL.kp st69 kp7 ((PrL.kp st5 kp6 hk).up e69)
        have hp7 : PrL H7 xs ps := PrL.kp st69 kp7 ((PrL.kp st5 kp6 (hp3.up e35)).up e69)
        have hx7' : H7 l = some (.lst xs) := kp7 _ _ nld nlg (e69 _ _ (kp6 _ _ nld nlg (e35 _ _ hx3)))
        have h77 : H7 l7 = some (.lst []) := kp7 _ _ n7d n7g (e69 _ _ (kp6 _ _ n7d n7g (e5 _ _ h7)))
        have nq7 : q ≠ l7 := fun z => by rw [z, h77] at hq; cases hq
        have e8 : Ex H7 (upd H7 q (.lst (ys.take j))) := Ex.new hq
        have hq8 : upd H7 q (.lst (ys.take j)) q = some (.lst (ys.take j)) := upd_same
        generalize upd H7 q (.lst (ys.take j)) = H8 at e8 hq8 ⊢
        have kp8 : Kp d g H H8 := ((((kp3.trans (Kp.of e35)).trans kp6).trans (Kp.of e69)).trans kp7).trans (Kp.of e8)
        have st8 := st7.up e8
        have hk8 := hk7.up e8
        have hp8 := hp7.up e8
        have hx8 := e8 _ _ hx7'
        have h78 := e8 _ _ h77
        have ky := hk8.map
        have pm2 : (ys.map (prOf H8)).Perm (allP M0 M0) := by
          rw [← ky]
          exact perm.map _
        have pz : ∀ y ∈ ys.take j, PairV H8 y (prOf H8 y) ∧ prOf H8 y ∈ allP M0 M0 := fun y hy => by
          have hy' := List.mem_of_mem_take hy
          obtain ⟨r', _, hr'⟩ := hk8.mem y (perm.mem_iff.mp hy')
          refine ⟨by rw [prOf_eq hr']; exact hr', pm2.mem_iff.mp (List.mem_map.mpr ⟨y, hy', rfl⟩)⟩
        have inr : ∀ t ∈ allP M0 M0, 0 ≤ t.1 ∧ t.1 < (ps.length : Int) ∧ 0 ≤ t.2 ∧ t.2 < (ps.length : Int) := fun t ht => by
          obtain ⟨b1, b2, b3, b4⟩ := mem_allP.mp ht
          rw [hpl]
          exact ⟨b1, b2, by omega, b4⟩
        have hyl : (ys.take j).length ≤ 276 := by
          have := pm2.length_eq
          rw [List.length_map] at this
          rw [List.length_take]
          omega
        have sm : ∀ p ∈ ps, Sm p := fun p hp => (wi p hp).sm r2
        refine ⟨q, rfl, ⟨_, SqL.of hq8⟩, for_list (K := K) (a := q) (xs := ys.take j) (fun i σ' H' => ∃ (txs : List V) (tks : List (Int × Int)) (v9 v10 v11 v12 : Option V), σ' = [some (.ref d), some (.int most), some (.int r), some (.int (M0 : Int)), some (.ref l), v5, some (.ref la), some (.ref l7), v8, v9, v10, v11, v12, none] ∧
          Kp l7 l7 H8 H' ∧ H' l7 = some (.lst txs) ∧ PrL H' txs tks ∧ tks.Sublist (((ys.take j).map (prOf H8)).take i)) ⟨[], [], none, none, none, none, rfl, fun b o _ _ h => h, h78, .nil, List.nil_sublist _⟩ (fun i σ' H' _ ⟨txs, tks, v9, v10, v11, v12, _, k1, _⟩ => SqL.of (k1 _ _ nq7 nq7 hq8)) ?_ ?_⟩
        · rintro i z σ' H9 hz ⟨txs, tks, v9, v10, v11, v12, rfl, k9, h79, ht9, sub⟩
          have hzm : z ∈ ys.take j := List.mem_of_getElem? hz
          obtain ⟨pz8, tin⟩ := pz z hzm
          generalize ht : prOf H8 z = t at pz8 tin
          obtain ⟨i0, i1, i2, i3⟩ := inr t tin
          have n78 : ∀ us, H8 l7 ≠ some (.tup us) := fun us z => by rw [h78] at z; cases z
          have pz9 : PairV H9 z t := pz8.kp k9 n78 n78
          have hp9 : PrL H9 xs ps := PrL.kpl k9 h78 hp8
          have hx9 : H9 l = some (.lst xs) := k9 _ _ n7l.symm n7l.symm hx8
          show tSeq _ _ _ ([some (.ref d), some (.int most), some (.int r), some (.int (M0 : Int)), some (.ref l), v5, some (.ref la), some (.ref l7), v8, v9, some z, v11, v12, none] : L2.St) H9
          obtain ⟨x1, w1, q1⟩ := ev_placeL (K := K) (σ := [some (.ref d), some (.int most), some (.int r), some (.int (M0 : Int)), some (.ref l), v5, some (.ref la), some (.ref l7), v8, v9, some z, v11, v12, none]) (i := 4) rfl hx9 hp9 (ev_p0 (i := 10) rfl pz9) i0 i1
          obtain ⟨x2, w2, q2⟩ := ev_placeL (K := K) (σ := [some (.ref d), some (.int most), some (.int r), some (.int (M0 : Int)), some (.ref l), v5, some (.ref la), some (.ref l7), v8, v9, some z, v11, v12, none]) (i := 4) rfl hx9 hp9 (ev_p1 (i := 10) rfl pz9) i2 i3
          refine q_asgL (el_lst (ea_cons w1 (ea_cons w2 ea_nil)) (by show 2 ≤ 100000; decide)) fun lE H10 hlE e10 hE => ?_
          have pz10 := pz9.up e10
          have q1' := q1.up e10
          have q2' := q2.up e10
          refine q_asgL (el_lcW (n := M0) (Y := YFn fun i => .int (i : Int)) (fun p => offB (p : Int) t && onZ (atP ps (p : Int)) (atP ps t.1) (atP ps t.2)) (fun _ => .int 1) (by omega) (w_rng1 (ev_var rfl) (by omega)) (fun p x H11 H12 hp11 e11 y => ?_)) fun lB H11 hlB e11 hB => ?_
          · obtain ⟨rfl, rfl⟩ := y
            refine ⟨Ex.refl _, _, fun R hR => hR, rfl, et_and (et_test (ev_op (ev_var (i := 13) rfl) (ev_var (i := 10) rfl) (rv_offB pz10))) (fun _ => ?_), fun _ => ev_c⟩
            obtain ⟨x3, w3, q3⟩ := ev_placeL (K := K) (σ := [some (.ref d), some (.int most), some (.int r), some (.int (M0 : Int)), some (.ref l), v5, some (.ref la), some (.ref l7), v8, v9, some z, some (.ref lE), v12, some (.int (p : Int))]) (i := 4) rfl (e10 _ _ hx9) (hp9.up e10) (ev_var (i := 13) rfl) (by omega) (by omega)
            exact et_B (ev_call (ea_cons w3 (ea_cons (ev_op (ev_var (i := 11) rfl) ev_c (rv_ixL (SqL.of hE) rfl)) (ea_cons (ev_op (ev_var (i := 11) rfl) ev_c (rv_ixL (SqL.of hE) rfl)) ea_nil))) (sp_tri q3 q1' q2' (sm_at sm _) (sm_at sm _) (sm_at sm _)))
          have e911 := e10.trans e11
          have h711 : H11 l7 = some (.lst txs) := e911 _ _ h79
          have hlBN7 : l7 ≠ lB := fun z => by rw [← z, e10 _ _ h79] at hlB; cases hlB
          have ht11 := ht9.up e911
          have htl := ht11.len
          have sl := sub.length_le
          rw [List.length_take, List.length_map] at sl
          refine q_forLn (ev_var rfl) (SqL.of h711) (fun i' σ' H' => ∃ (v9 : Option V) (bxs : List V), σ' = [some (.ref d), some (.int most), some (.int r), some (.int (M0 : Int)), some (.ref l), v5, some (.ref la), some (.ref l7), v8, v9, some z, some (.ref lE), some (.ref lB), none] ∧
            Kp lB lB H11 H' ∧ H' lB = some (.lst bxs) ∧ (∀ b ∈ bxs, b = .int 1) ∧ bxs.length ≤ 7 + i') (fun H12 e12 => ⟨v9, _, rfl, Kp.of e12, e12 _ _ hB, fun b hb => ?_, ?_⟩) (fun i' σ' H' _ ⟨v9, bxs, _, k12, _⟩ => SqL.of (k12 _ _ hlBN7 hlBN7 h711)) ?_ ?_
          · unfold given at hb
            obtain ⟨_, _, rfl⟩ := List.mem_map.mp hb
            rfl
          · have := given_len M0 (fun p => offB (p : Int) t && onZ (atP ps (p : Int)) (atP ps t.1) (atP ps t.2)) (fun _ => V.int 1)
            omega
          · rintro i' o σ' H12 ho ⟨v9, bxs, rfl, k12, hb12, ball, blen⟩
            have hi' : i' < txs.length := by
              obtain ⟨h, _⟩ := List.getElem?_eq_some_iff.mp ho
              exact h
            obtain ⟨u, hu, qu⟩ := ht11.get i' o ho
            have nB : ∀ us, H11 lB ≠ some (.tup us) := fun us z => by rw [hB] at z; cases z
            have qu12 := qu.kp k12 nB nB
            have pz12 := (pz10.up e11).kp k12 nB nB
            have q112 := (q1'.up e11).kp k12 nB nB
            have q212 := (q2'.up e11).kp k12 nB nB
            have uin : u ∈ allP M0 M0 := by
              have h1 := sub.subset (List.mem_of_getElem? hu)
              obtain ⟨y, hy, rfl⟩ := List.mem_map.mp (List.mem_of_mem_take h1)
              exact (pz y hy).2
            obtain ⟨u0, u1, u2, u3⟩ := inr u uin
            have nlE : lE ≠ lB := fun z => by rw [← z, hE] at hlB; cases hlB
            have nll : l ≠ lB := fun z => by rw [← z, e10 _ _ hx9] at hlB; cases hlB
            have hE12 : H12 lE = some (.lst [x1, x2]) := k12 _ _ nlE nlE (e11 _ _ hE)
            have hx12 : H12 l = some (.lst xs) := k12 _ _ nll nll (e911 _ _ hx9)
            have hp12 : PrL H12 xs ps := PrL.kpl k12 hB (hp9.up e911)
            refine s_when (b := offB t.1 u && offB t.2 u) (et_and (et_test (ev_op (ev_p0 (i := 10) rfl pz12) (ev_var (i := 9) rfl) (rv_offB qu12))) (fun _ => et_test (ev_op (ev_p1 (i := 10) rfl pz12) (ev_var (i := 9) rfl) (rv_offB qu12)))) (fun _ H13 e13 => ?_) (fun _ H13 e13 => ⟨_, bxs, rfl, k12.trans (Kp.of e13), e13 _ _ hb12, ball, by omega⟩)
            obtain ⟨x3, w3, q3⟩ := ev_placeL (K := K) (σ := [some (.ref d), some (.int most), some (.int r), some (.int (M0 : Int)), some (.ref l), v5, some (.ref la), some (.ref l7), v8, some o, some z, some (.ref lE), some (.ref lB), none]) (i := 4) rfl (e13 _ _ hx12) (hp12.up e13) (ev_p0 (i := 9) rfl (qu12.up e13)) u0 u1
            obtain ⟨x4, w4, q4⟩ := ev_placeL (K := K) (σ := [some (.ref d), some (.int most), some (.int r), some (.int (M0 : Int)), some (.ref l), v5, some (.ref la), some (.ref l7), v8, some o, some z, some (.ref lE), some (.ref lB), none]) (i := 4) rfl (e13 _ _ hx12) (hp12.up e13) (ev_p1 (i := 9) rfl (qu12.up e13)) u2 u3
            refine s_when (b := meetQ (atP ps t.1) (atP ps t.2) (atP ps u.1) (atP ps u.2)) (et_B (ev_call (ea_cons (ev_op (ev_var (i := 11) rfl) ev_c (rv_ixL (SqL.of (e13 _ _ hE12)) rfl)) (ea_cons (ev_op (ev_var (i := 11) rfl) ev_c (rv_ixL (SqL.of (e13 _ _ hE12)) rfl)) (ea_cons w3 (ea_cons w4 ea_nil)))) (sp_meet (q112.up e13) (q212.up e13) q3 q4 (sm_at sm _) (sm_at sm _) (sm_at sm _) (sm_at sm _)))) (fun _ H14 e14 => ?_)
              (fun _ H14 e14 => ⟨_, bxs, rfl, k12.trans (Kp.of (e13.trans e14)), (e13.trans e14) _ _ hb12, ball, by omega⟩)
            refine s_app ((e13.trans e14) _ _ hb12) (ev_var (i := 12) rfl) ev_c (by omega) fun H15 e15 => ⟨_, bxs ++ [.int 1], rfl, fun b x h1 h2 h => ?_, upd_same, fun b hb => ?_, by rw [List.length_append]; show bxs.length + 1 ≤ _; omega⟩
            · exact (upd_ne h1).trans (e15 _ _ ((e13.trans e14) _ _ (k12 b x h1 h2 h)))
            · rcases List.mem_append.mp hb with h | h
              · exact ball b h
              · exact List.mem_singleton.mp h
          · rintro σ' H12 ⟨v9, bxs, rfl, k12, hb12, ball, blen⟩
            have nB : ∀ us, H11 lB ≠ some (.tup us) := fun us z => by rw [hB] at z; cases z
            have h712 : H12 l7 = some (.lst txs) := k12 _ _ hlBN7 hlBN7 h711
            have ht12 : PrL H12 txs tks := PrL.kpl k12 hB ht11
            have pz12 := (pz10.up e11).kp k12 nB nB
            have k812 : Kp l7 l7 H8 H12 := fun b x h1 h2 h => by
              have h9 := k9 b x h1 h2 h
              have nb : b ≠ lB := fun z => by rw [← z, e10 _ _ h9] at hlB; cases hlB
              exact k12 _ _ nb nb (e911 _ _ h9)
            have step : ((ys.take j).map (prOf H8)).take (i + 1) = ((ys.take j).map (prOf H8)).take i ++ [t] := by
              rw [List.take_add_one, List.getElem?_map, hz]
              show _ ++ [prOf H8 z] = _
              rw [ht]
            refine s_when (et_eqN (i := 12) rfl hb12 fun x hx => .inl ⟨1, ball x hx⟩) (fun _ H13 e13 => ?_) (fun _ H13 e13 => ⟨txs, tks, _, _, _, _, rfl, k812.trans (Kp.of e13), e13 _ _ h712, ht12.up e13, ?_⟩)
            · refine s_app (e13 _ _ h712) (ev_var (i := 7) rfl) (ev_var (i := 10) rfl) (by omega) fun H14 e14 => ⟨txs ++ [z], tks ++ [t], _, _, _, _, rfl, fun b x h1 h2 h => (upd_ne h1).trans (e14 _ _ (e13 _ _ (k812 b x h1 h2 h))), upd_same, ?_, ?_⟩
              · exact PrL.upd (fun us z => by rw [e14 _ _ (e13 _ _ h712)] at z; cases z) ((ht12.up (e13.trans e14)).app (.cons (pz12.up (e13.trans e14)) .nil))
              · rw [step]
                exact sub.append (List.Sublist.refl _)
            · rw [step]
              exact sub.trans (List.sublist_append_left _ _)
        · rintro σ' H9 ⟨txs, tks, v9, v10, v11, v12, rfl, k9, h79, ht9, sub⟩
          have n78 : ∀ us, H8 l7 ≠ some (.tup us) := fun us z => by rw [h78] at z; cases z
          have sub2 : tks.Sublist ((ys.take j).map (prOf H8)) := sub.trans (List.take_sublist _ _)
          have sl := sub2.length_le
          rw [List.length_map] at sl
          have htl := ht9.len
          have n7H : H l7 = none := by
            cases z : H l7 with
            | none => rfl
            | some o =>
              rw [kp3 _ _ n7d n7g z] at n7
              cases n7
          refine ⟨_, rfl, _, rfl, l7, txs, prOf H9, rfl, SqL.of h79, fun x hx => ?_, fun zs ra hs hb hra => ?_⟩
          · obtain ⟨p, _, t, rfl, ht⟩ := ht9.mem x hx
            exact ⟨t, rfl, by rw [prOf_eq ⟨t, rfl, ht⟩]; exact ht⟩
          refine ⟨ra, zs, rfl, .inl ⟨SqL.of upd_same, fun ta hta => ?_⟩⟩
          have e10 : Ex H9 (upd (upd H9 ra (.lst zs)) ta (.tup zs)) := (Ex.new hra).trans (Ex.new hta)
          have hta2 : upd (upd H9 ra (.lst zs)) ta (.tup zs) ta = some (.tup zs) := upd_same
          generalize upd (upd H9 ra (.lst zs)) ta (.tup zs) = H10 at e10 hta2 ⊢
          have hx9 : H9 l = some (.lst xs) := k9 _ _ n7l.symm n7l.symm hx8
          have hp9 : PrL H9 xs ps := PrL.kpl k9 h78 hp8
          refine ⟨_, rfl, l, xs, rfl, .inl ⟨SqL.of (e10 _ _ hx9), fun pa hpa => ⟨by show 3 ≤ sizeLine; decide, fun TT hTT => ?_⟩⟩⟩
          have e11 : Ex H10 (upd (upd H10 pa (.tup xs)) TT (.tup [.int (M0 : Int), .ref ta, .ref pa])) := (Ex.new hpa).trans (Ex.new hTT)
          have hpa2 : upd (upd H10 pa (.tup xs)) TT (.tup [.int (M0 : Int), .ref ta, .ref pa]) pa = some (.tup xs) := (Ex.new hTT) pa _ upd_same
          have hTT2 : upd (upd H10 pa (.tup xs)) TT (.tup [.int (M0 : Int), .ref ta, .ref pa]) TT = some (.tup [.int (M0 : Int), .ref ta, .ref pa]) := upd_same
          have pm3 : (zs.map (prOf H9)).Perm tks := by
            rw [← ht9.map]
            exact hb.perm.map _
          have hz9 : PrL H9 zs (zs.map (prOf H9)) := PrL.of fun y hy => by
            obtain ⟨p, _, hp⟩ := ht9.mem y (hb.perm.mem_iff.mp hy)
            exact ⟨p, hp⟩
          have hin : ∀ p ∈ zs.map (prOf H9), p ∈ allP M0 M0 := fun p hp => by
            obtain ⟨y, hy, rfl⟩ := List.mem_map.mp (sub2.subset (pm3.mem_iff.mp hp))
            exact (pz y hy).2
          have nd : (zs.map (prOf H9)).Nodup := by
            refine pm3.nodup_iff.mpr (sub2.nodup ?_)
            rw [List.map_take]
            exact (List.take_sublist j _).nodup (pm2.nodup_iff.mpr (nodup_allP M0 M0))
          have zl := pm3.length_eq
          obtain ⟨b1, b2⟩ := next_turn s6 3
          have st9 : StX H9 d g c (s6.next 3) := ⟨k9 _ _ n7d.symm n7d.symm st8.1, k9 _ _ n7g.symm n7g.symm st8.2.1, k9 _ _ n7c.symm n7c.symm st8.2.2.1, st8.2.2.2⟩
          have kp9 : Kp d g H H9 := fun b o h1 h2 h => by
            have nb : b ≠ l7 := fun z => by rw [z, n7H] at h; cases h
            exact k9 _ _ nb nb (kp8 b o h1 h2 h)
          refine k _ (s6.next 3) TT ta pa zs xs M0 (zs.map (prOf H9)) ps (st9.up (e10.trans e11)) (by rw [next_cs, hcs6, hcs3]) (by omega) ?_ (kp9.trans (Kp.of (e10.trans e11))) hTT2 (e11 _ _ hta2) (hz9.up (e10.trans e11)) ⟨by omega, by omega, fun p hp => ?_, asc_of (asc_sorted (List.pairwise_map.mpr hs) nd), by omega⟩ hpa2 (hp9.up (e10.trans e11)) hpl hM7.1 (by omega) wi
          · have : (7 : Int) * cPP + 2000 < 2 ^ 100 := by decide
            omega
          · obtain ⟨h1, h2, h3, h4⟩ := mem_allP.mp (hin p hp)
            exact ⟨h1, h3, h4⟩
end
end My
/-! tuple * 0, tuple * 1 (HandS.TupMul wants 2 or more) -/
namespace My
open PySem PySem.Spec PyProof.Rows L2
theorem tuple_mul1 (l : Addr) (items : Array Value) (n : Nat) (sl : Array (Option Value)) (dd : Option Addr) (u : Tok) :
    Meets (Builtin.«tuple.__mul__» ⟨[.ref l, .int 1 u], []⟩) (fun _ R s => s.heap.get? l = some { cls := .type "tuple", dict := dd, data := .seq items n, slots := sl } ∧ R (.ok (.ret (Value.ref l))) s) :=
  .of_wp fun prog w A R s h => by
    obtain ⟨hp, g, d, tk, os⟩ := s
    obtain ⟨hl, h⟩ := h
    have f1 := AutoSeq1.idx_int
    have c1 : (items.isEmpty || (1 : Int) == 1) = true := by rw [Bool.or_eq_true]; exact .inr rfl
    wp_walk using wpAny_loadPart' hl
    repeat (first
      | (refine wpAny_ite_false (decide_eq_false (by decide)) ?_; wp_walk using wpAny_loadPart' hl)
      | (refine wpAny_ite_true (decide_eq_true (by rw [c1])) ?_; wp_walk using wpAny_loadPart' hl))
    exact ⟨_, rfl, h⟩
theorem tuple_mul0 (l : Addr) (items : Array Value) (n : Nat) (sl : Array (Option Value)) (dd : Option Addr) (u : Tok) (hi : items.isEmpty = false) :
    Meets (Builtin.«tuple.__mul__» ⟨[.ref l, .int 0 u], []⟩) (fun _ R s => s.heap.get? l = some { cls := .type "tuple", dict := dd, data := .seq items n, slots := sl } ∧
      R (.ok (.ret (Value.ref s.heap.objs.size))) { s with heap := s.heap.push { cls := Value.type "tuple", data := Data.seq #[] }, toks := s.toks }) :=
  .of_wp fun prog w A R s h => by
    obtain ⟨hp, g, d, tk, os⟩ := s
    obtain ⟨hl, h⟩ := h
    have f1 := AutoSeq1.idx_int
    have c1 : (items.isEmpty || (0 : Int) == 1) = false := by rw [hi]; rfl
    have c2 : (decide ((0 : Int) ≤ 0) || items.isEmpty) = true := rfl
    wp_walk using wpAny_loadPart' hl
    repeat (first
      | (refine wpAny_ite_false (decide_eq_false (by rw [c1]; exact Bool.false_ne_true)) ?_; wp_walk using wpAny_loadPart' hl)
      | (refine wpAny_ite_true (decide_eq_true (by rw [c2])) ?_; wp_walk using wpAny_loadPart' hl)
      | (refine wpAny_ite_false (decide_eq_false (by decide)) ?_; wp_walk using wpAny_loadPart' hl))
    exact ⟨_, rfl, h⟩
/-- tuple * int, any count from 0 on -/
def rRepT0 (K : PySem.W.Frag) : R2 := fun x y H Q => ∃ l k xs, x = .ref l ∧ y = .int k ∧ SqT K H l xs ∧ xs ≠ [] ∧ 0 ≤ k ∧ k ≤ 1000 ∧ xs.length ≤ 1000 ∧ (k = 1 → Q (.ref l) H) ∧ (k ≠ 1 → ∀ p, H p = none → Q (.ref p) (upd H p (.tup (List.replicate k.toNat xs).flatten)))
section
variable {X : Cx}
theorem op_repT0 : OpR X (binaryOp .Mult) (rRepT0 X.K) := by
  intro pins s σ H x y v u Q I rx ry h
  obtain ⟨l, k, xs, rfl, rfl, hT, hne, h1, h2, hz, q1, qn⟩ := h
  by_cases hk2 : 2 ≤ k
  · exact op_repT pins s σ H _ _ v u Q I rx ry ⟨l, k, xs, rfl, rfl, hT, hne, hk2, h2, hz, qn (by omega)⟩
  cases rx
  obtain ⟨t, rfl⟩ := ry
  obtain ⟨its, r, ⟨⟨cls, dd, data, sl⟩, ho, hc, n, hd⟩, hs⟩ := I.tuple hT
  simp only at hc hd
  subst hc hd
  have hle : its.length = xs.length := r.length.symm
  have hn : its ≠ [] := fun e => hne (by
    rw [e] at hle
    exact List.eq_nil_of_length_eq_zero hle.symm)
  have hi : its.toArray.isEmpty = false := by
    cases its with
    | nil => exact absurd rfl hn
    | cons a b => rfl
  by_cases e1 : k = 1
  · subst e1
    refine wpAny_binaryOp_repeat_ref (T := "tuple") (U := "int") (by decide) ⟨_, ho, rfl⟩ (fun s' => typeIs_int s' 1 t) noFill_tuple_mul F.fills_int_mul F.slot_int_rmul repeat_tuple F.slot_int_index.lookup
      (call_meets F.slot_int_rmul (typeIs_int s 1 t) F.entry_int_rmul (F.args_int_rmul_2 _ _) (int_rmul_tuple 1 t l its.toArray n dd sl)
        ⟨ho, rfl, ⟨_, ho, rfl⟩, call_meets F.slot_tuple_mul ⟨_, ho, rfl⟩ F.entry_tuple_mul (F.args_tuple_mul_2 _ _) (tuple_mul1 l its.toArray n sl dd t) ⟨ho, ?_⟩⟩)
    exact ⟨.ref l, H, I, rfl, q1 rfl⟩
  · have e0 : k = 0 := by omega
    subst e0
    refine wpAny_binaryOp_repeat_ref (T := "tuple") (U := "int") (by decide) ⟨_, ho, rfl⟩ (fun s' => typeIs_int s' 0 t) noFill_tuple_mul F.fills_int_mul F.slot_int_rmul repeat_tuple F.slot_int_index.lookup
      (call_meets F.slot_int_rmul (typeIs_int s 0 t) F.entry_int_rmul (F.args_int_rmul_2 _ _) (int_rmul_tuple 0 t l its.toArray n dd sl)
        ⟨ho, rfl, ⟨_, ho, rfl⟩, call_meets F.slot_tuple_mul ⟨_, ho, rfl⟩ F.entry_tuple_mul (F.args_tuple_mul_2 _ _) (tuple_mul0 l its.toArray n sl dd t hi) ⟨ho, ?_⟩⟩)
    refine ⟨.ref s.heap.objs.size, _, I.laid (t' := s.toks) (o := .tup []) (fun b ob q => Heap.get?_push_of_some _ q) (Nat.le_refl _) ?_, rfl, qn e1 _ (I.hok.fresh (Nat.le_refl _))⟩
    exact ⟨by show 0 ≤ sizeLine; decide, _, .nil, IsTup.new _ _⟩
end
end My
/-! _law_is_truth, pick from a tuple, _law_k36_moved -/
namespace My
open PySem PySem.Spec PyProof.Rows L2 Evl
section
variable {P : Program} {w : World} {K : PySem.W.Frag} {mg : Str → Option Value} {base : Heap}
def spTruth : Sp := fun vs H Q _ => ∃ a b, vs = [.bl a, .bl b] ∧ RetV (.bl (decide (a = b))) H Q
theorem scTr : FnScope ["found", "due"] ["found", "due"] (defScope s_law_is_truth) := ⟨rfl, rfl, rfl, by decide +kernel, rfl, by decide +kernel, by decide +kernel⟩
theorem ok_truth {f : Addr} {fd : FuncData} (F : Fun K "_law_is_truth" "_law_is_truth" s_law_is_truth f fd) : FnOk P w K mg base CX0 1 f fd ["found", "due"] spTruth := by
  refine F.ok scTr (fun vs H Q E h => ?_) (fun cdv A outer s H vs Q E hr h => ?_)
  · obtain ⟨a, b, rfl, _⟩ := h
    rfl
  · obtain ⟨a, b, rfl, k⟩ := h
    refine ⟨_, pss_one (ps_ret (pe_ifExp (pt_val (pv 1)) (pe_cmpR op_is_bl (pv 0) pe_bl (nomark _)) (pe_cmpR op_is_bl (pv 0) pe_bl (nomark _)))), ?_⟩
    refine ⟨_, rfl, b, rfl, ?_⟩
    cases b with
    | true => exact iteT ⟨_, rfl, a, true, rfl, rfl, k.go (Ex.refl _)⟩
    | false => exact iteF ⟨_, rfl, a, false, rfl, rfl, k.go (Ex.refl _)⟩
theorem Kp.tup {H H' : Hp} {d g c : Addr} {s : Src} {b : Addr} {ys : List V} (k : Kp d g H H') (st : StX H d g c s) (h : H b = some (.tup ys)) : H' b = some (.tup ys) :=
  k b _ (ne_of h st.1 (by intro q; cases q)) (ne_of h st.2.1 (by intro q; cases q)) h
theorem eqv_nilT (ds : List PyData) : PyData.eqv (.tuple ds) (.tuple []) = ds.isEmpty := by
  cases ds with
  | nil => simp [PyData.eqv, PyData.eqvAll]
  | cons a r => simp [PyData.eqv, PyData.eqvAll]
/-- ties != () -/
theorem et_neT {K : PySem.W.Frag} {σ : L2.St} {H : Hp} {i : Nat} {l : Addr} {xs : List V} {ps : List Pt} (hi : σ[i]? = some (some (.ref l))) (hl : H l = some (.tup xs)) (hp : PrL H xs ps) : EvT (tTest (tOp (rNeD K) (tVar i) (tTup tNil))) σ H (!ps.isEmpty) :=
  et_test (ev_opU (ev_var hi) (eu_tup ea_nil (Nat.zero_le _)) fun p H1 hp1 e1 => rv_val fun H2 e2 Q q => by
    refine ⟨.tuple (ps.map fun p => PyData.tuple [.int p.1, .int p.2]), .tuple [], Dp.tup (SqT.of ((e1.trans e2) _ _ hl)) (dp_prs (hp.up (e1.trans e2))), Dp.tup (SqT.of (e2 _ _ hp1)) .nil, ?_, by decide, ?_⟩
    · have h5 : PyData.canLay0 (.tuple (ps.map fun p => PyData.tuple [.int p.1, .int p.2])) = true := by unfold PyData.canLay0; exact prs_lay ps
      have h6 : PyData.depth (.tuple (ps.map fun p => PyData.tuple [.int p.1, .int p.2])) ≤ 2 := by
        show PyData.depthAll _ + 1 ≤ 2
        have := prs_depth ps
        omega
      unfold SeqAt.shaped
      rw [h5, decide_eq_true (Nat.le_trans h6 (by decide))]
      rfl
    · rw [eqv_nilT, show (ps.map fun p => PyData.tuple [.int p.1, .int p.2]).isEmpty = ps.isEmpty by cases ps <;> rfl]
      exact q)
/-- pick, from a tuple -/
def spPickT : Sp := fun vs H Q _ => ∃ (d g c a : Addr) (s : Src) (xs : List V), vs = [.ref d, .ref a] ∧ StX H d g c s ∧ 0 ≤ s.turn ∧ s.turn < 2 ^ 900 ∧ H a = some (.tup xs) ∧ 0 < xs.length ∧ xs.length < 1000000 ∧
  ∀ (H' : Hp) (x : V), StX H' d g c (s.next xs.length) → Kp d g H H' → xs[(s.val xs.length).toNat]? = some x → Q x H'
theorem ok_pickT {f fD fB : Addr} {fd fdD fdB : FuncData} (F : Fun K "_law_pick" "_law_pick" sPick f fd) (B : DrB mg) (FB : Fun K "_law_blended" "_law_blended" sBlended fB fdB) (mgB : mg "_law_blended" = some (.ref fB))
    (FD : Fun K "_law_draw" "_law_draw" sDraw fD fdD) (mgD : mg "_law_draw" = some (.ref fD)) : FnOk P w K mg base CX0 3 f fd ["state", "several"] spPickT := by
  have GD : FnOk P w K mg base CX0 2 fD fdD ["state", "size_here"] spDraw := ok_draw FD B FB mgB
  have bD : Binds K fdD ["state", "size_here"] [] := FD.binds (ps := ["state", "size_here"]) fun _ _ _ _ _ _ us hl => match us, hl with | [_, _], _ => rfl
  refine F.ok scPk (fun vs H Q E h => ?_) (fun cdv A outer s H vs Q E hr h => ?_)
  · obtain ⟨d, g, c, a, s0, xs, rfl, _⟩ := h
    rfl
  · obtain ⟨d, g, c, a, s0, xs, rfl, hst, hT0, hT1, ha, l0, l1, k⟩ := h
    refine ⟨_, pss_one (ps_ret (pe_ix ix_tup (pv 1) (pe_call GD hr rfl mgD FD.kp bD .nil pass0 (pa_cons (pv 0) (pa_cons (pe_callB call_len_seq (by rfl) B.len PySem.boot_len (pa_cons (pv 1) pa_nil)) pa_nil))) (fun _ _ => rfl))), ?_⟩
    have nad : a ≠ d := ne_of ha hst.1 (by intro q; cases q)
    have nag : a ≠ g := ne_of ha hst.2.1 (by intro q; cases q)
    refine ⟨_, rfl, _, rfl, _, rfl, a, xs, rfl, Or.inr (SqT.of ha), d, g, c, s0, (xs.length : Int), rfl, hst, hT0, hT1, by omega, by omega, fun H1 st1 k1 => ?_⟩
    obtain ⟨v0, v1⟩ := val_in s0 (show (0 : Int) < (xs.length : Int) by omega)
    have hj : (s0.val xs.length).toNat < xs.length := by omega
    have e : s0.val xs.length = (((s0.val xs.length).toNat : Nat) : Int) := by omega
    generalize hx : xs[(s0.val xs.length).toNat] = x
    have hx' : xs[(s0.val xs.length).toNat]? = some x := by rw [List.getElem?_eq_getElem hj, hx]
    refine ⟨a, xs, _, x, rfl, rfl, SqT.of (k1 a _ nad nag ha), ?_, k _ _ st1 k1 hx'⟩
    rw [e]
    exact atI_nat hx'
def spMoved (K : PySem.W.Frag) : Sp := fun vs H Q _ => ∃ (d g c tl ta pa : Addr) (s : Src) (txs xs : List V) (m : Nat) (ks : List (Int × Int)) (ps : List Pt), vs = [.ref d, .ref tl] ∧ StX H d g c s ∧ 0 ≤ s.turn ∧ s.turn < 2 ^ 899 ∧
  H tl = some (.tup [.int (m : Int), .ref ta, .ref pa]) ∧ H ta = some (.tup txs) ∧ PrL H txs ks ∧ OkNet (m : Int) ks ∧ H pa = some (.tup xs) ∧ PrL H xs ps ∧ ps.length = m ∧ (∀ p ∈ ps, Within 500000 p) ∧
  ∀ (H' : Hp) (s' : Src) (a : Addr) (ys : List V) (qs : List Pt), StX H' d g c s' → s'.cs = s.cs → s.turn ≤ s'.turn → s'.turn ≤ s.turn + 10 → Kp d g H H' → SqT K H' a ys → PrL H' ys qs → qs.length = m → (∀ p ∈ qs, Near p) → Q (.ref a) H'
theorem scMv : FnScope ["state", "told_here", "many", "ties", "places_here", "at", "goal", "way", "one", "other", "both"] ["state", "told_here"] (defScope s_law_k36_moved) := ⟨rfl, rfl, rfl, by decide +kernel, rfl, by decide +kernel, by decide +kernel⟩
theorem ok_moved {f fD fB fP : Addr} {fd fdD fdB fdP : FuncData} (F : Fun K "_law_k36_moved" "_law_k36_moved" s_law_k36_moved f fd) (B : DrB mg) (FB : Fun K "_law_blended" "_law_blended" sBlended fB fdB) (mgB : mg "_law_blended" = some (.ref fB))
    (FD : Fun K "_law_draw" "_law_draw" sDraw fD fdD) (mgD : mg "_law_draw" = some (.ref fD)) (FP : Fun K "_law_pick" "_law_pick" sPick fP fdP) (mgP : mg "_law_pick" = some (.ref fP)) : FnOk P w K mg base CX0 4 f fd ["state", "told_here"] (spMoved K) := by
  have GD : FnOk P w K mg base CX0 2 fD fdD ["state", "size_here"] spDraw := ok_draw FD B FB mgB
  have bD : Binds K fdD ["state", "size_here"] [] := FD.binds (ps := ["state", "size_here"]) fun _ _ _ _ _ _ us hl => match us, hl with | [_, _], _ => rfl
  have GP : FnOk P w K mg base CX0 3 fP fdP ["state", "several"] spPickT := ok_pickT FP B FB mgB FD mgD
  have bP : Binds K fdP ["state", "several"] [] := FP.binds (ps := ["state", "several"]) fun _ _ _ _ _ _ us hl => match us, hl with | [_, _], _ => rfl
  refine F.ok scMv (fun vs H Q E h => ?_) (fun cdv A outer s H vs Q E hr h => ?_)
  · obtain ⟨d, g, c, tl, ta, pa, s0, txs, xs, m, ks, ps, rfl, _⟩ := h
    rfl
  · obtain ⟨d, g, c, tl, ta, pa, s0, txs, xs, m, ks, ps, rfl, hst, t0, t1, htl, hta, hks, ok, hpa, hps, hm, wi, k⟩ := h
    have hr2 := hr.mono (show 2 ≤ 3 by decide)
    refine ⟨_, pss_cons (ps_asg (pv 1) (pg_tup rfl (pgs_cons (pg_name (i := 2) scMv.nd rfl (Or.inl rfl)) (pgs_cons (pg_name (i := 3) scMv.nd rfl (Or.inl rfl)) (pgs_cons (pg_name (i := 4) scMv.nd rfl (Or.inl rfl)) pgs_nil)))))
      (pss_cons (ps_set (i := 5) scMv.nd rfl (Or.inl rfl) (pe_call GD hr2 (by rfl) mgD FD.kp bD .nil pass0 (pa_cons (pv 0) (pa_cons (pv 2) pa_nil))))
      (pss_cons (ps_set (i := 6) scMv.nd rfl (Or.inl rfl) (pe_tup
        (pa_cons (pe_op op_sub (pe_op op_add (pe_ix ix_tup (pe_ix ix_tup (pv 4) (pv 5) (fun _ _ => rfl)) pe_int (fun _ _ => rfl)) (pe_call GD hr2 (by rfl) mgD FD.kp bD .nil pass0 (pa_cons (pv 0) (pa_cons pe_int pa_nil)))) pe_int)
        (pa_cons (pe_op op_sub (pe_op op_add (pe_ix ix_tup (pe_ix ix_tup (pv 4) (pv 5) (fun _ _ => rfl)) pe_int (fun _ _ => rfl)) (pe_call GD hr2 (by rfl) mgD FD.kp bD .nil pass0 (pa_cons (pv 0) (pa_cons pe_int pa_nil)))) pe_int) pa_nil))))
      (pss_cons (ps_set (i := 7) scMv.nd rfl (Or.inl rfl) (pe_call GD hr2 (by rfl) mgD FD.kp bD .nil pass0 (pa_cons (pv 0) (pa_cons pe_int pa_nil))))
      (pss_cut (ps_if (pt_cmpR op_eq (pv 7) pe_int (nomark _)) (pss_one (ps_set (i := 6) scMv.nd rfl (Or.inl rfl) (pe_call GP hr (by rfl) mgP FP.kp bP .nil pass0 (pa_cons (pv 0) (pa_cons (pv 4) pa_nil)))))
        (pss_one (ps_if (PW.pt (pw_and (pt_cmpR op_eq (pv 7) pe_int (nomark _)) (pw_and1 (pt_cmpR (op_neD hr.units) (pv 3) (pe_tup pa_nil) (nomark _)))))
          (pss_cons (ps_asg (pe_call GP hr (by rfl) mgP FP.kp bP .nil pass0 (pa_cons (pv 0) (pa_cons (pv 3) pa_nil))) (pg_tup rfl (pgs_cons (pg_name (i := 8) scMv.nd rfl (Or.inl rfl)) (pgs_cons (pg_name (i := 9) scMv.nd rfl (Or.inl rfl)) pgs_nil))))
          (pss_cons (ps_set (i := 10) scMv.nd rfl (Or.inl rfl) (pe_tup (pa_cons (pe_ix ix_tup (pv 4) (pv 8) (fun _ _ => rfl)) (pa_cons (pe_ix ix_tup (pv 4) (pv 9) (fun _ _ => rfl)) pa_nil))))
          (pss_one (ps_set (i := 6) scMv.nd rfl (Or.inl rfl) (pe_tup
            (pa_cons (pe_op op_fdiv (pe_op op_add (pe_ix ix_tup (pe_ix ix_tup (pv 10) pe_int (fun _ _ => rfl)) pe_int (fun _ _ => rfl)) (pe_ix ix_tup (pe_ix ix_tup (pv 10) pe_int (fun _ _ => rfl)) pe_int (fun _ _ => rfl))) pe_int)
            (pa_cons (pe_op op_fdiv (pe_op op_add (pe_ix ix_tup (pe_ix ix_tup (pv 10) pe_int (fun _ _ => rfl)) pe_int (fun _ _ => rfl)) (pe_ix ix_tup (pe_ix ix_tup (pv 10) pe_int (fun _ _ => rfl)) pe_int (fun _ _ => rfl))) pe_int) pa_nil)))))))
          pss_nil)))
      (pss_one (ps_ret (pe_op op_catA (pe_op op_catA (pe_slice sl_tupA (pv 4) po_none (po_some (pv 5))) (pe_tup (pa_cons (pv 6) pa_nil))) (pe_slice sl_tupA (pv 4) (po_some (pe_op op_add (pv 5) pe_int)) po_none)))))))), ?_⟩
    have m1 := ok.lo
    have m2 := ok.hi
    have hlx := hps.len
    refine ⟨_, rfl, tl, _, rfl, SqT.of htl, rfl, _, _, rfl, _, _, rfl, _, _, rfl, rfl, ?_⟩
    refine ⟨_, rfl, _, rfl, d, g, c, s0, (m : Int), rfl, hst, t0, by omega, by omega, by omega, fun H1 st1 k1 => ?_⟩
    obtain ⟨v0, v1⟩ := val_in s0 (show (0 : Int) < (m : Int) by omega)
    obtain ⟨n1, n2⟩ := next_turn s0 m
    obtain ⟨n3, n4⟩ := next_turn (s0.next m) 3
    obtain ⟨n5, n6⟩ := next_turn ((s0.next m).next 3) 3
    obtain ⟨n7, n8⟩ := next_turn (((s0.next m).next 3).next 3) 4
    obtain ⟨a, ha⟩ : ∃ a : Nat, s0.val m = (a : Int) := ⟨(s0.val m).toNat, by omega⟩
    have hi : a < xs.length := by omega
    obtain ⟨p, hp, t, hzt, hpt⟩ := hps.get a xs[a] (List.getElem?_eq_getElem hi)
    have hat : atI xs (s0.val m) = some (.ref t) := by
      rw [ha, ← hzt]
      exact atI_nat (List.getElem?_eq_getElem hi)
    have pin : Within 500000 p := wi p (List.mem_of_getElem? hp)
    have hpa1 := k1.tup hst hpa
    have hpt1 := k1.tup hst hpt
    obtain ⟨a1, a2⟩ := val_in (s0.next m) (show (0 : Int) < 3 by decide)
    obtain ⟨b1, b2⟩ := val_in ((s0.next m).next 3) (show (0 : Int) < 3 by decide)
    refine ⟨_, rfl, _, rfl, pa, xs, _, _, rfl, rfl, SqT.of hpa1, hat, t, _, 0, .int p.1, rfl, rfl, SqT.of hpt1, rfl, _, rfl, d, g, c, _, 3, rfl, st1, by omega, by omega, by decide, by decide, fun H2 st2 k2 => ⟨_, _, rfl, rfl, _, _, rfl, rfl, ?_⟩⟩
    have hpa2 := k2.tup st1 hpa1
    have hpt2 := k2.tup st1 hpt1
    refine ⟨_, rfl, _, rfl, pa, xs, _, _, rfl, rfl, SqT.of hpa2, hat, t, _, 1, .int p.2, rfl, rfl, SqT.of hpt2, rfl, _, rfl, d, g, c, _, 3, rfl, st2, by omega, by omega, by decide, by decide, fun H3 st3 k3 => ⟨_, _, rfl, rfl, _, _, rfl, rfl, by show 2 ≤ sizeLine; decide, fun gz hgz => ?_⟩⟩
    let G : Pt := (p.1 + (s0.next m).val 3 - 1, p.2 + ((s0.next m).next 3).val 3 - 1)
    have eG : Ex H3 (upd H3 gz (.tup [.int G.1, .int G.2])) := Ex.new hgz
    have hG : upd H3 gz (.tup [.int G.1, .int G.2]) gz = some (.tup [.int G.1, .int G.2]) := upd_same
    have nG : Near G := by
      obtain ⟨w1, w2, w3, w4⟩ := pin
      exact ⟨by show -1000000 ≤ p.1 + (s0.next m).val 3 - 1; omega, by show p.1 + (s0.next m).val 3 - 1 ≤ 1000000; omega, by show -1000000 ≤ p.2 + ((s0.next m).next 3).val 3 - 1; omega, by show p.2 + ((s0.next m).next 3).val 3 - 1 ≤ 1000000; omega⟩
    show gName 6 (.ref gz) _ (upd H3 gz (.tup [.int G.1, .int G.2])) _
    generalize upd H3 gz (.tup [.int G.1, .int G.2]) = H4 at eG hG ⊢
    have st4 := st3.up eG
    refine ⟨_, rfl, d, g, c, _, 4, rfl, st4, by omega, by omega, by decide, by decide, fun H5 st5 k5 => ?_⟩
    have kp5 : Kp d g H H5 := (((k1.trans k2).trans k3).trans (Kp.of eG)).trans k5
    have hG5 := k5.tup st4 hG
    have near (q : Pt) (h : Within 500000 q) : Near q := ⟨by have := h.1; omega, by have := h.2.1; omega, by have := h.2.2.1; omega, by have := h.2.2.2; omega⟩
    let Mid : L2.St → Hp → Prop := fun σ' H' => ∃ (s' : Src) (gz : V) (gp : Pt) (v7 v8 v9 v10 : Option V), σ' = [some (.ref d), some (.ref tl), some (.int (m : Int)), some (.ref ta), some (.ref pa), some (.int (s0.val m)), some gz, v7, v8, v9, v10] ∧
      StX H' d g c s' ∧ s'.cs = s0.cs ∧ s0.turn ≤ s'.turn ∧ s'.turn ≤ s0.turn + 5 ∧ Kp d g H H' ∧ PairV H' gz gp ∧ Near gp
    have cs5 : ((((s0.next m).next 3).next 3).next 4).cs = s0.cs := by rw [next_cs, next_cs, next_cs, next_cs]
    generalize (((s0.next m).next 3).next 3).val 4 = way
    generalize hs5 : ((((s0.next m).next 3).next 3).next 4) = s5 at st5 n7 n8 cs5
    have hpa5 := kp5.tup hst hpa
    have hta5 := kp5.tup hst hta
    have hps5 : PrL H5 xs ps := PrL.kp hst kp5 hps
    have hks5 : PrL H5 txs ks := PrL.kp hst kp5 hks
    refine q_cut (M := Mid) ?_ ?_
    · refine s_if (et_test (ev_op (ev_var rfl) ev_c (rv_eq rfl))) (fun _ H6 e6 => ?_) (fun _ H6 e6 => ?_)
      · refine ⟨_, rfl, _, rfl, d, g, c, pa, s5, xs, rfl, st5.up e6, by omega, by omega, e6 _ _ hpa5, by omega, by omega, fun H7 x st7 k7 hx => ?_⟩
        obtain ⟨q, hq, qx⟩ := (hps5.up e6).get _ x hx
        obtain ⟨n9, n10⟩ := next_turn s5 xs.length
        exact ⟨_, x, q, _, _, _, _, rfl, st7, by rw [next_cs, cs5], by omega, by omega, (kp5.trans (Kp.of e6)).trans k7, qx.kp k7 (st5.up e6).nd (st5.up e6).ng, near q (wi q (List.mem_of_getElem? hq))⟩
      · refine s_when (b := decide (V.int way = V.int 1) && !ks.isEmpty) (et_and (et_test (ev_op (ev_var rfl) ev_c (rv_eq rfl))) (fun _ => et_neT (i := 3) rfl (e6 _ _ hta5) (hks5.up e6))) (fun hb H7 e7 => ?_) (fun _ H7 e7 => ⟨s5, .ref gz, G, _, _, _, _, rfl, st5.up (e6.trans e7), cs5, by omega, by omega, kp5.trans (Kp.of (e6.trans e7)), ⟨gz, rfl, (e6.trans e7) _ _ hG5⟩, nG⟩)
        have e67 := e6.trans e7
        have hne : 0 < txs.length := by
          rw [hks5.len]
          cases ks with
          | nil => rw [Bool.and_eq_true] at hb; exact absurd hb.2 Bool.false_ne_true
          | cons _ _ => exact Nat.succ_pos _
        have hfew := ok.few
        have htl' := hks5.len
        refine ⟨_, rfl, _, rfl, d, g, c, ta, s5, txs, rfl, st5.up e67, by omega, by omega, e67 _ _ hta5, hne, by omega, fun H8 x st8 k8 hx => ?_⟩
        obtain ⟨n9, n10⟩ := next_turn s5 txs.length
        obtain ⟨u, hu, qu⟩ := (hks5.up e67).get _ x hx
        obtain ⟨i0, i1, i2, i3⟩ := in_r ok (List.mem_of_getElem? hu)
        obtain ⟨tu, rfl, hu8⟩ := qu.kp k8 (st5.up e67).nd (st5.up e67).ng
        have hpa8 := k8.tup (st5.up e67) (e67 _ _ hpa5)
        have hps8 : PrL H8 xs ps := PrL.kp (st5.up e67) k8 (hps5.up e67)
        refine g_pairT (SqT.of hu8) ?_
        obtain ⟨x1, w1, t1', rfl, ht1⟩ := ev_place (K := K) (σ := [some (.ref d), some (.ref tl), some (.int (m : Int)), some (.ref ta), some (.ref pa), some (.int (s0.val m)), some (.ref gz), some (.int way), some (.int u.1), some (.int u.2), none]) (i := 4) rfl (SqT.of hpa8) hps8 (ev_var (i := 8) rfl) i0 (by omega)
        obtain ⟨x2, w2, t2', rfl, ht2⟩ := ev_place (K := K) (σ := [some (.ref d), some (.ref tl), some (.int (m : Int)), some (.ref ta), some (.ref pa), some (.int (s0.val m)), some (.ref gz), some (.int way), some (.int u.1), some (.int u.2), none]) (i := 4) rfl (SqT.of hpa8) hps8 (ev_var (i := 9) rfl) i2 (by omega)
        refine q_asgU (eu_tup (ea_cons w1 (ea_cons w2 ea_nil)) (by show 2 ≤ 100000; decide)) fun B H9 hB e9 hB9 => ?_
        have w1' : Within 500000 (atP ps u.1) := by
          unfold atP
          rw [List.getD_eq_getElem?_getD, List.getElem?_eq_getElem (by omega)]
          exact wi _ (List.getElem_mem _)
        have w2' : Within 500000 (atP ps u.2) := by
          unfold atP
          rw [List.getD_eq_getElem?_getD, List.getElem?_eq_getElem (by omega)]
          exact wi _ (List.getElem_mem _)
        refine s_asgU (eu_tup (vs := [.int (((atP ps u.1).1 + (atP ps u.2).1) / 2), .int (((atP ps u.1).2 + (atP ps u.2).2) / 2)]) (ea_cons (ev_op (ev_op (ev_op (ev_op (ev_var (i := 10) rfl) ev_c (rv_ixT (SqT.of hB9) rfl)) ev_c (rv_ixT (SqT.of (e9 _ _ ht1)) rfl)) (ev_op (ev_op (ev_var (i := 10) rfl) ev_c (rv_ixT (SqT.of hB9) rfl)) ev_c (rv_ixT (SqT.of (e9 _ _ ht2)) rfl)) rv_I0) ev_c (rv_I ⟨by decide, by decide⟩))
          (ea_cons (ev_op (ev_op (ev_op (ev_op (ev_var (i := 10) rfl) ev_c (rv_ixT (SqT.of hB9) rfl)) ev_c (rv_ixT (SqT.of (e9 _ _ ht1)) rfl)) (ev_op (ev_op (ev_var (i := 10) rfl) ev_c (rv_ixT (SqT.of hB9) rfl)) ev_c (rv_ixT (SqT.of (e9 _ _ ht2)) rfl)) rv_I0) ev_c (rv_I ⟨by decide, by decide⟩)) ea_nil)) (by show 2 ≤ 100000; decide)) fun gq H10 hgq e10 hq10 => ?_
        refine ⟨_, .ref gq, (((atP ps u.1).1 + (atP ps u.2).1) / 2, ((atP ps u.1).2 + (atP ps u.2).2) / 2), _, _, _, _, rfl, st8.up (e9.trans e10), by rw [next_cs, cs5], by omega, by omega, ((kp5.trans (Kp.of e67)).trans k8).trans (Kp.of (e9.trans e10)), ⟨gq, rfl, hq10⟩, ?_⟩
        obtain ⟨z1, z2, z3, z4⟩ := w1'
        obtain ⟨z5, z6, z7, z8⟩ := w2'
        exact ⟨by show -1000000 ≤ ((atP ps u.1).1 + (atP ps u.2).1) / 2; omega, by show ((atP ps u.1).1 + (atP ps u.2).1) / 2 ≤ 1000000; omega, by show -1000000 ≤ ((atP ps u.1).2 + (atP ps u.2).2) / 2; omega, by show ((atP ps u.1).2 + (atP ps u.2).2) / 2 ≤ 1000000; omega⟩
    · rintro σ' H6 ⟨s', gz', gp, v7, v8, v9, v10, rfl, st6, cs6, tlo, thi, kp6, hgp, ngp⟩
      have hpa6 := kp6.tup hst hpa
      have hps6 : PrL H6 xs ps := PrL.kp hst kp6 hps
      rw [ha]
      refine es_cat (es_cat (es_is (es_sl (es_var (i := 4) rfl (SqT.of hpa6)) eo_none (eo_some (ev_var (i := 5) rfl))) (cut_to xs a)) (es_U (eu_tup (ea_cons (ev_var (i := 6) rfl) ea_nil) (by show 1 ≤ 100000; decide))) (by rw [List.length_take]; show _ + 1 ≤ _; omega)) (es_is (es_sl (es_var (i := 4) rfl (SqT.of hpa6)) (eo_some (ev_op (ev_var (i := 5) rfl) ev_c rv_I0)) eo_none) (cut_from xs (a + 1))) (by rw [List.length_append, List.length_take, List.length_drop]; show _ + 1 + _ ≤ _; omega) H6 (Ex.refl _) _ fun r H7 e7 hr7 => ?_
      refine k H7 s' r _ (ps.take a ++ [gp] ++ ps.drop (a + 1)) (st6.up e7) cs6 tlo (by omega) (kp6.trans (Kp.of e7)) hr7 ((((PrL.take a hps6).app (.cons hgp .nil)).app (PrL.drop (a + 1) hps6)).up e7) ?_ fun q hq => ?_
      · rw [List.length_append, List.length_append, List.length_take, List.length_drop]
        show _ + 1 + _ = _
        omega
      · rcases List.mem_append.mp hq with h | h
        · rcases List.mem_append.mp h with h | h
          · exact near q (wi q (List.mem_of_mem_take h))
          · rw [List.mem_singleton.mp h]
            exact ngp
        · exact near q (wi q (List.mem_of_mem_drop h))
end
end My
/-! _law_nt_no_net -/
namespace My
open PySem PySem.Spec PyProof.Rows L2 Evl
/-- what isinstance of built-in values answers for the class at C -/
def NoB (K : PySem.W.Frag) (C : Addr) : Bool := (["NoneType", "int", "bool", "tuple", "list", "dict", "str"] : List String).all fun t => PySem.W.kitOne K (.type t) (.ref C) == some false
theorem NoB.ans {K : PySem.W.Frag} {C : Addr} (h : NoB K C = true) {t : String} (ht : t ∈ (["NoneType", "int", "bool", "tuple", "list", "dict", "str"] : List String)) : PySem.W.kitOne K (.type t) (.ref C) = some false := by
  have := List.all_eq_true.mp h t ht
  exact eq_of_beq this
section
variable {P : Program} {w : World} {K : PySem.W.Frag} {mg : Str → Option Value} {base : Heap}
def spNoNet (K : PySem.W.Frag) (C : Addr) : Sp := fun vs H Q _ => ∃ (d g c : Addr) (s : Src), vs = [.ref d] ∧ StX H d g c s ∧ 0 ≤ s.turn ∧ s.turn < 2 ^ 899 ∧
  ∀ (H' : Hp) (s' : Src) (x : V), StX H' d g c s' → s'.cs = s.cs → s.turn ≤ s'.turn → s'.turn ≤ s.turn + 1 → Kp d g H H' → (∀ H2, Ex H' H2 → NoInst K C H2 x) → Q x H'
theorem scNn : FnScope ["state"] ["state"] (defScope s_law_nt_no_net) := ⟨rfl, rfl, rfl, by decide +kernel, rfl, by decide +kernel, by decide +kernel⟩
theorem ok_noNet {f fD fB fP C : Addr} {fd fdD fdB fdP : FuncData} (F : Fun K "_law_nt_no_net" "_law_nt_no_net" s_law_nt_no_net f fd) (B : DrB mg) (N : NoB K C = true) (FB : Fun K "_law_blended" "_law_blended" sBlended fB fdB) (mgB : mg "_law_blended" = some (.ref fB))
    (FD : Fun K "_law_draw" "_law_draw" sDraw fD fdD) (mgD : mg "_law_draw" = some (.ref fD)) (FP : Fun K "_law_pick" "_law_pick" sPick fP fdP) (mgP : mg "_law_pick" = some (.ref fP)) : FnOk P w K mg base CX0 4 f fd ["state"] (spNoNet K C) := by
  have GP : FnOk P w K mg base CX0 3 fP fdP ["state", "several"] spPick := ok_pick FP B FB mgB FD mgD
  have bP : Binds K fdP ["state", "several"] [] := FP.binds (ps := ["state", "several"]) fun _ _ _ _ _ _ us hl => match us, hl with | [_, _], _ => rfl
  refine F.ok scNn (fun vs H Q E h => ?_) (fun cdv A outer s H vs Q E hr h => ?_)
  · obtain ⟨d, g, c, s0, rfl, _⟩ := h
    rfl
  · obtain ⟨d, g, c, s0, rfl, hst, t0, t1, k⟩ := h
    refine ⟨_, pss_one (ps_ret (pe_call GP hr (by rfl) mgP FP.kp bP .nil pass0 (pa_cons (pv 0) (pa_cons (pe_lst (pa_cons pe_non (pa_cons pe_int (pa_cons pe_bl (pa_cons (pe_tup pa_nil) (pa_cons (pe_lst pa_nil) (pa_cons pe_dnewK (pa_cons pe_str (pa_cons (pe_tup (pa_cons pe_int (pa_cons (pe_tup pa_nil) pa_nil))) (pa_cons (pe_op op_pow pe_int pe_int) pa_nil)))))))))) pa_nil)))), ?_⟩
    refine ⟨_, rfl, by show 0 ≤ sizeLine; decide, fun p1 hp1 => ⟨by show 0 ≤ sizeLine; decide, fun l1 hl1 => fun d1 hd1 => ⟨by show 0 ≤ sizeLine; decide, fun p2 hp2 => ⟨by show 2 ≤ sizeLine; decide, fun p3 hp3 => ⟨_, _, rfl, rfl, ⟨by decide, by decide, by decide⟩, by show 9 ≤ sizeLine; decide, fun L hL => ?_⟩⟩⟩⟩⟩
    have e1 : Ex H (upd H p1 (.tup [])) := Ex.new hp1
    have h1 : upd H p1 (.tup []) p1 = some (.tup []) := upd_same
    generalize upd H p1 (.tup []) = H1 at e1 h1 hl1 hd1 hp2 hp3 hL ⊢
    have e2 : Ex H1 (upd H1 l1 (.lst [])) := Ex.new hl1
    have h2 : upd H1 l1 (.lst []) l1 = some (.lst []) := upd_same
    generalize upd H1 l1 (.lst []) = H2 at e2 h2 hd1 hp2 hp3 hL ⊢
    have e3 : Ex H2 (upd H2 d1 (.dK [])) := Ex.new hd1
    have h3 : upd H2 d1 (.dK []) d1 = some (.dK []) := upd_same
    generalize upd H2 d1 (.dK []) = H3 at e3 h3 hp2 hp3 hL ⊢
    have e4 : Ex H3 (upd H3 p2 (.tup [])) := Ex.new hp2
    generalize upd H3 p2 (.tup []) = H4 at e4 hp3 hL ⊢
    have e5 : Ex H4 (upd H4 p3 (.tup [.int 3, .ref p2])) := Ex.new hp3
    have h5 : upd H4 p3 (.tup [.int 3, .ref p2]) p3 = some (.tup [.int 3, .ref p2]) := upd_same
    generalize upd H4 p3 (.tup [.int 3, .ref p2]) = H5 at e5 h5 hL ⊢
    have e6 : Ex H5 (upd H5 L (.lst [.non, .int 0, .bl true, .ref p1, .ref l1, .ref d1, .str "net", .ref p3, .int (10 ^ 18)])) := Ex.new hL
    have h6 : upd H5 L (.lst [.non, .int 0, .bl true, .ref p1, .ref l1, .ref d1, .str "net", .ref p3, .int (10 ^ 18)]) L = some (.lst [.non, .int 0, .bl true, .ref p1, .ref l1, .ref d1, .str "net", .ref p3, .int (10 ^ 18)]) := upd_same
    have g1 := e1
    have eH5 : Ex H H5 := (((e1.trans e2).trans e3).trans e4).trans e5
    have nL : L ≠ g := fun z => by rw [z, eH5 _ _ hst.2.1] at hL; cases hL
    have q1 := (((e2.trans e3).trans e4).trans e5).trans e6 _ _ h1
    have q2 := ((e3.trans e4).trans e5).trans e6 _ _ h2
    have q3 := (e4.trans e5).trans e6 _ _ h3
    have q5 := e6 _ _ h5
    have eH6 := eH5.trans e6
    have st6 := hst.up eH6
    have nl1 : l1 ≠ d := fun z => by rw [z, e1 _ _ hst.1] at hl1; cases hl1
    have nl2 : l1 ≠ g := fun z => by rw [z, e1 _ _ hst.2.1] at hl1; cases hl1
    have nd1 : d1 ≠ d := fun z => by rw [z, (e1.trans e2) _ _ hst.1] at hd1; cases hd1
    have nd2 : d1 ≠ g := fun z => by rw [z, (e1.trans e2) _ _ hst.2.1] at hd1; cases hd1
    refine ⟨d, g, c, L, s0, _, rfl, st6, t0, by omega, h6, nL, Nat.succ_pos _, (show 9 < 1000000 by decide), fun H7 x st7 k7 hx => ?_⟩
    obtain ⟨n1, n2⟩ := next_turn s0 9
    refine k H7 _ x st7 (next_cs _ _) n1 n2 ((Kp.of eH6).trans k7) fun H8 e8 => ?_
    have m1 := List.mem_of_getElem? hx
    simp only [List.mem_cons, List.not_mem_nil, or_false] at m1
    rcases m1 with rfl | rfl | rfl | rfl | rfl | rfl | rfl | rfl | rfl
    · exact ⟨_, .base .non, NoB.ans N (by decide)⟩
    · exact ⟨_, .base (.int _), NoB.ans N (by decide)⟩
    · exact ⟨_, .base (.bl _), NoB.ans N (by decide)⟩
    · exact ⟨_, .base (.tup (e8 _ _ (k7.tup st6 q1))), NoB.ans N (by decide)⟩
    · exact ⟨_, .base (.lst (e8 _ _ (k7 _ _ nl1 nl2 q2))), NoB.ans N (by decide)⟩
    · exact ⟨_, .base (.dK (e8 _ _ (k7 _ _ nd1 nd2 q3))), NoB.ans N (by decide)⟩
    · exact ⟨_, .base (.str _), NoB.ans N (by decide)⟩
    · exact ⟨_, .base (.tup (e8 _ _ (k7.tup st6 q5))), NoB.ans N (by decide)⟩
    · exact ⟨_, .base (.int _), NoB.ans N (by decide)⟩
end
end My
/-! _law_st_no_places -/
namespace My
open PySem PySem.Spec PyProof.Rows L2 Evl
theorem sqt_kp {K : PySem.W.Frag} {H H' : Hp} {d g c a : Addr} {s : Src} {xs : List V} (st : StX H d g c s) (k : Kp d g H H') (h : SqT K H a xs) : SqT K H' a xs := by
  rcases h with (h | ⟨o, h⟩) | h
  · exact .inl (.inl (k.tup st h))
  · refine .inl (.inr ⟨o, k a _ (fun z => ?_) (fun z => ?_) h⟩)
    · rw [z, st.1] at h
      cases h
    · rw [z, st.2.1] at h
      cases h
  · exact .inr h
/-- items and places, by what they are -/
inductive ItC (K : PySem.W.Frag) (d g : Addr) (H : Hp) : V → Option (List V) → Prop
  | tup {t : Addr} {ys : List V} : SqT K H t ys → (∀ y ∈ ys, flatV y = true) → ys.length ≤ 100 → ItC K d g H (.ref t) (some ys)
  | int (i : Int) : ItC K d g H (.int i) none
  | lst {a : Addr} {xs : List V} : H a = some (.lst xs) → a ≠ d → a ≠ g → ItC K d g H (.ref a) none
inductive ItCs (K : PySem.W.Frag) (d g : Addr) (H : Hp) : List V → List (Option (List V)) → Prop
  | nil : ItCs K d g H [] []
  | cons {x : V} {o : Option (List V)} {xs : List V} {os : List (Option (List V))} : ItC K d g H x o → ItCs K d g H xs os → ItCs K d g H (x :: xs) (o :: os)
inductive ArC (K : PySem.W.Frag) (d g : Addr) (H : Hp) : V → Option (List (Option (List V))) → Prop
  | tup {t : Addr} {xs : List V} {os : List (Option (List V))} : SqT K H t xs → ItCs K d g H xs os → xs.length ≤ 100 → ArC K d g H (.ref t) (some os)
  | non : ArC K d g H .non none
  | int (i : Int) : ArC K d g H (.int i) none
  | lst {a : Addr} {xs : List V} : H a = some (.lst xs) → a ≠ d → a ≠ g → ArC K d g H (.ref a) none
section
variable {K : PySem.W.Frag} {d g : Addr} {H H' : Hp}
theorem ItC.up (e : Ex H H') {x : V} {o : Option (List V)} (h : ItC K d g H x o) : ItC K d g H' x o := by
  cases h with
  | tup h1 h2 h3 => exact .tup (ex_t e h1) h2 h3
  | int i => exact .int i
  | lst h1 h2 h3 => exact .lst (e _ _ h1) h2 h3
theorem ItCs.up (e : Ex H H') : ∀ {xs os}, ItCs K d g H xs os → ItCs K d g H' xs os
  | _, _, .nil => .nil
  | _, _, .cons h r => .cons (h.up e) (ItCs.up e r)
theorem ArC.up (e : Ex H H') {x : V} {o} (h : ArC K d g H x o) : ArC K d g H' x o := by
  cases h with
  | tup h1 h2 h3 => exact .tup (ex_t e h1) (h2.up e) h3
  | non => exact .non
  | int i => exact .int i
  | lst h1 h2 h3 => exact .lst (e _ _ h1) h2 h3
theorem ItC.kp {c : Addr} {s : Src} (st : StX H d g c s) (k : Kp d g H H') {x : V} {o : Option (List V)} (h : ItC K d g H x o) : ItC K d g H' x o := by
  cases h with
  | tup h1 h2 h3 => exact .tup (sqt_kp st k h1) h2 h3
  | int i => exact .int i
  | lst h1 h2 h3 => exact .lst (k _ _ h2 h3 h1) h2 h3
theorem ItCs.kp {c : Addr} {s : Src} (st : StX H d g c s) (k : Kp d g H H') : ∀ {xs os}, ItCs K d g H xs os → ItCs K d g H' xs os
  | _, _, .nil => .nil
  | _, _, .cons h r => .cons (h.kp st k) (ItCs.kp st k r)
theorem ArC.kp {c : Addr} {s : Src} (st : StX H d g c s) (k : Kp d g H H') {x : V} {o} (h : ArC K d g H x o) : ArC K d g H' x o := by
  cases h with
  | tup h1 h2 h3 => exact .tup (sqt_kp st k h1) (h2.kp st k) h3
  | non => exact .non
  | int i => exact .int i
  | lst h1 h2 h3 => exact .lst (k _ _ h2 h3 h1) h2 h3
theorem ItC.it {x : V} {o : Option (List V)} (h : ItC K d g H x o) : ItV K H x o := by
  cases h with
  | tup h1 h2 h3 => exact .tup h1 h2 h3
  | int i => exact .no fun H2 e2 => ⟨_, .base (.int i), rfl⟩
  | lst h1 h2 h3 => exact .no fun H2 e2 => ⟨_, .base (.lst (e2 _ _ h1)), rfl⟩
theorem ItCs.it : ∀ {xs os}, ItCs K d g H xs os → ItL K H xs os
  | _, _, .nil => .nil
  | _, _, .cons h r => .cons h.it r.it
theorem ArC.ar {x : V} {o} (h : ArC K d g H x o) : ArV K H x o := by
  cases h with
  | tup h1 h2 h3 => exact .tup h1 h2.it h3
  | non => exact .no fun H2 e2 => ⟨_, .base .non, rfl⟩
  | int i => exact .no fun H2 e2 => ⟨_, .base (.int i), rfl⟩
  | lst h1 h2 h3 => exact .no fun H2 e2 => ⟨_, .base (.lst (e2 _ _ h1)), rfl⟩
theorem ItCs.app : ∀ {xs os ys ps}, ItCs K d g H xs os → ItCs K d g H ys ps → ItCs K d g H (xs ++ ys) (os ++ ps)
  | _, _, _, _, .nil, k => k
  | _, _, _, _, .cons h r, k => .cons h (r.app k)
theorem ItCs.len : ∀ {xs os}, ItCs K d g H xs os → xs.length = os.length
  | _, _, .nil => rfl
  | _, _, .cons _ r => congrArg (· + 1) r.len
/-- a word gives an item, a tuple of items, a bad value -/
def EvI (K : PySem.W.Frag) (d g : Addr) (te : TE) (σ : L2.St) (H : Hp) (o : Option (List V)) : Prop := ∀ H1, Ex H H1 → ∀ Q : VK, (∀ v H2, Ex H1 H2 → ItC K d g H2 v o → Q v H2) → te σ H1 Q
def EaI (K : PySem.W.Frag) (d g : Addr) (ta : TA) (σ : L2.St) (H : Hp) (os : List (Option (List V))) : Prop := ∀ H1, Ex H H1 → ∀ Q : List V → Hp → Prop, (∀ vs H2, Ex H1 H2 → ItCs K d g H2 vs os → Q vs H2) → ta σ H1 Q
def EvG (K : PySem.W.Frag) (d g : Addr) (te : TE) (σ : L2.St) (H : Hp) (os : List (Option (List V))) : Prop := ∀ H1, Ex H H1 → ∀ Q : VK, (∀ t xs H2, Ex H1 H2 → SqT K H2 t xs → ItCs K d g H2 xs os → Q (.ref t) H2) → te σ H1 Q
def EvC (K : PySem.W.Frag) (d g : Addr) (te : TE) (σ : L2.St) (H : Hp) (o : Option (List (Option (List V)))) : Prop := ∀ H1, Ex H H1 → ∀ Q : VK, (∀ v H2, Ex H1 H2 → ArC K d g H2 v o → Q v H2) → te σ H1 Q
variable {σ : L2.St} {te ta tb : TE}
theorem ei_tup {t : TA} {ys : List V} (h : EvA t σ H ys) (hf : ∀ y ∈ ys, flatV y = true) (hl : ys.length ≤ 100) : EvI K d g (tTup t) σ H (some ys) := fun H1 e Q q =>
  eu_tup h (by omega) H1 e _ fun p H2 _ e2 h2 => q _ H2 e2 (.tup (SqT.of h2) hf hl)
theorem eai_nil : EaI K d g tNil σ H [] := fun H1 e Q q => q [] H1 (Ex.refl _) .nil
theorem eai_cons {tr : TA} {o : Option (List V)} {os : List (Option (List V))} (h : EvI K d g te σ H o) (hr : EaI K d g tr σ H os) : EaI K d g (tCons te tr) σ H (o :: os) := fun H1 e Q q =>
  h H1 e _ fun v H2 e2 hv => hr H2 (e.trans e2) _ fun vs H3 e3 hvs => q _ H3 (e2.trans e3) (.cons (hv.up e3) hvs)
theorem eg_tup {t : TA} {os : List (Option (List V))} (h : EaI K d g t σ H os) (hl : os.length ≤ 100) : EvG K d g (tTup t) σ H os := fun H1 e Q q =>
  h H1 e _ fun vs H2 e2 hvs => ⟨by have := hvs.len; exact sz_of (by omega), fun p hp => q p vs _ (e2.trans (Ex.new hp)) (SqT.of upd_same) (hvs.up (Ex.new hp))⟩
theorem eg_cat {os ps : List (Option (List V))} (h : EvG K d g ta σ H os) (k : EvG K d g tb σ H ps) (hz : os.length + ps.length ≤ 100) : EvG K d g (tOp (rCatA K) ta tb) σ H (os ++ ps) := fun H1 e Q q =>
  h H1 e _ fun a xs H2 e2 ha hx => k H2 (e.trans e2) _ fun b ys H3 e3 hb hy => ⟨a, b, xs, ys, rfl, rfl, ex_t e3 ha, hb, by rw [hx.len, hy.len]; exact sz_of (by omega), fun z => by
    subst z
    exact q b _ H3 (e2.trans e3) hb ((hx.up e3).app hy), fun _ z => by
    subst z
    refine q a _ H3 (e2.trans e3) (ex_t e3 ha) ?_
    have := (hx.up e3).app hy
    rw [List.append_nil] at this
    exact this, fun _ _ p hp => q p _ _ ((e2.trans e3).trans (Ex.new hp)) (SqT.of upd_same) (((hx.up e3).app hy).up (Ex.new hp))⟩
theorem ec_g {os : List (Option (List V))} (h : EvG K d g te σ H os) (hl : os.length ≤ 100) : EvC K d g te σ H (some os) := fun H1 e Q q =>
  h H1 e _ fun t xs H2 e2 ht hx => q _ H2 e2 (.tup ht hx (by rw [hx.len]; exact hl))
theorem ec_non : EvC K d g (tC .non) σ H none := fun H1 e Q q => q _ H1 (Ex.refl _) .non
theorem ec_int {i : Int} : EvC K d g (tC (.int i)) σ H none := fun H1 e Q q => q _ H1 (Ex.refl _) (.int i)
/-- list(tuple) -/
theorem ec_list {os : List (Option (List V))} (od : ∃ o, H d = some o) (og : ∃ o, H g = some o) (h : EvG K d g te σ H os) : EvC K d g (tCB (rListS K) (tCons te tNil)) σ H none := fun H1 e Q q =>
  h H1 e _ fun t xs H2 e2 ht hx => ⟨t, xs, rfl, .inr ht, fun l hl => q _ _ (e2.trans (Ex.new hl)) (.lst upd_same (fun z => by
    obtain ⟨o, ho⟩ := od
    rw [z, (e.trans e2) _ _ ho] at hl
    cases hl) (fun z => by
    obtain ⟨o, ho⟩ := og
    rw [z, (e.trans e2) _ _ ho] at hl
    cases hl))⟩
theorem eg_var {i : Nat} {G : Addr} {xs : List V} {os : List (Option (List V))} (h : σ[i]? = some (some (.ref G))) (hG : SqT K H G xs) (hx : ItCs K d g H xs os) : EvG K d g (tVar i) σ H os := fun H1 e Q q => ⟨_, h, q G xs H1 (Ex.refl _) (ex_t e hG) (hx.up e)⟩
theorem ei_int {i : Int} : EvI K d g (tC (.int i)) σ H none := fun H1 e Q q => q _ H1 (Ex.refl _) (.int i)
theorem ei_lst {t : TA} {ys : List V} (od : ∃ o, H d = some o) (og : ∃ o, H g = some o) (h : EvA t σ H ys) (hl : ys.length ≤ 100) : EvI K d g (tLst t) σ H none := fun H1 e Q q =>
  el_lst h (by omega) H1 e _ fun p H2 hp e2 h2 => q _ H2 e2 (.lst h2 (fun z => by
    obtain ⟨o, ho⟩ := od
    rw [z, e _ _ ho] at hp
    cases hp) (fun z => by
    obtain ⟨o, ho⟩ := og
    rw [z, e _ _ ho] at hp
    cases hp))
theorem its_rep {vs : List V} {o : Option (List V)} (h : ItCs K d g H vs [o]) : ∀ k : Nat, ItCs K d g H (List.replicate k vs).flatten (List.replicate k o)
  | 0 => .nil
  | k + 1 => by
    rw [List.replicate_succ, List.replicate_succ, List.flatten_cons]
    exact h.app (its_rep h k)
theorem eg_rep {ti : TE} {o : Option (List V)} {k : Nat} (h : EvI K d g ti σ H o) (hk : Ev te σ H (.int (k : Int))) (hk1 : k ≤ 100) : EvG K d g (tOp (rRepT0 K) (tTup (tCons ti tNil)) te) σ H (List.replicate k o) := fun H1 e Q q =>
  eg_tup (eai_cons h eai_nil) (by show 1 ≤ 100; decide) H1 e _ fun p vs H2 e2 hp hvs => hk H2 (e.trans e2) _ fun H3 e3 => by
    have hl := hvs.len
    have hv3 := hvs.up e3
    refine ⟨p, (k : Int), vs, rfl, rfl, ex_t e3 hp, (fun z => by rw [z] at hl; cases hl), by omega, by omega, by rw [hl]; show 1 ≤ 1000; decide, fun h1 => ?_, fun _ r hr => ?_⟩
    · have e1 : k = 1 := by omega
      subst e1
      exact q p vs H3 (e2.trans e3) (ex_t e3 hp) hv3
    · exact q r _ _ ((e2.trans e3).trans (Ex.new hr)) (SqT.of upd_same) ((its_rep hv3 k).up (Ex.new hr))
theorem q_asgG {tz : TS} {D : Ends} {i : Nat} {os : List (Option (List V))} (h : EvG K d g te σ H os) (k : ∀ t xs H1, Ex H H1 → SqT K H1 t xs → ItCs K d g H1 xs os → tz D (σ.set i (some (.ref t))) H1) : tSeq (tAsg te (gName i)) tz D σ H :=
  h H (Ex.refl H) _ fun t xs H1 e h1 h2 => k t xs H1 e h1 h2
theorem okAll_len {m : Int} {os : List (Option (List V))} (h : (os.length : Int) ≠ m) : okAll m (some os) = false := by
  show (decide ((os.length : Int) = m) && _) = false
  rw [decide_eq_false h, Bool.false_and]
theorem okAll_bad {m : Int} {os : List (Option (List V))} {o : Option (List V)} (h : okItem o = false) : okAll m (some (os ++ [o])) = false := by
  show (decide _ && (os ++ [o]).all okItem) = false
  rw [List.all_append, List.all_cons, h, Bool.false_and, Bool.and_false, Bool.and_false]
/-- a list of bad values -/
def BadAll (K : PySem.W.Frag) (d g : Addr) (m : Int) (H : Hp) (vs : List V) : Prop := ∀ v ∈ vs, ∃ o, ArC K d g H v o ∧ okAll m o = false
def EaB (K : PySem.W.Frag) (d g : Addr) (m : Int) (n : Nat) (t : TA) (σ : L2.St) (H : Hp) : Prop := ∀ H1, Ex H H1 → ∀ Q : List V → Hp → Prop, (∀ vs H2, Ex H1 H2 → vs.length = n → BadAll K d g m H2 vs → Q vs H2) → t σ H1 Q
theorem BadAll.up {m : Int} {vs : List V} (e : Ex H H') (h : BadAll K d g m H vs) : BadAll K d g m H' vs := fun v hv => let ⟨o, h1, h2⟩ := h v hv; ⟨o, h1.up e, h2⟩
theorem eb_nil {m : Int} : EaB K d g m 0 tNil σ H := fun H1 e Q q => q [] H1 (Ex.refl _) rfl fun v hv => by cases hv
theorem eb_cons {m : Int} {n : Nat} {tr : TA} {o : Option (List (Option (List V)))} (h : EvC K d g te σ H o) (ho : okAll m o = false) (hr : EaB K d g m n tr σ H) : EaB K d g m (n + 1) (tCons te tr) σ H := fun H1 e Q q =>
  h H1 e _ fun v H2 e2 hv => hr H2 (e.trans e2) _ fun vs H3 e3 hn hvs => q _ H3 (e2.trans e3) (congrArg (· + 1) hn) fun x hx => by
    rcases List.mem_cons.mp hx with rfl | hx
    · exact ⟨o, hv.up e3, ho⟩
    · exact hvs x hx
end
section
variable {K : PySem.W.Frag} {d g : Addr} {H H' : Hp} {σ : L2.St} {te ta tb : TE}
/-- a new list of bad values -/
def EvB (K : PySem.W.Frag) (d g : Addr) (m : Int) (n : Nat) (te : TE) (σ : L2.St) (H : Hp) : Prop := ∀ H1, Ex H H1 → ∀ Q : VK, (∀ p vs H2, H1 p = none → Ex H1 H2 → H2 p = some (.lst vs) → vs.length = n → BadAll K d g m H2 vs → Q (.ref p) H2) → te σ H1 Q
theorem evb_lst {m : Int} {n : Nat} {t : TA} (h : EaB K d g m n t σ H) (hn : n ≤ 100) : EvB K d g m n (tLst t) σ H := fun H1 e Q q =>
  h H1 e _ fun vs H2 e2 hv hb => ⟨sz_of (by omega), fun p hp => q p vs _ (fresh_back e2 hp) (e2.trans (Ex.new hp)) upd_same hv (hb.up (Ex.new hp))⟩
theorem evb_cat {m : Int} {n k : Nat} {l : Addr} {xs : List V} (ha : Ev ta σ H (.ref l)) (hl : H l = some (.lst xs)) (hx : BadAll K d g m H xs) (hk : xs.length = k) (hb : EvB K d g m n tb σ H) (hz : k + n ≤ 100) : EvB K d g m (k + n) (tOp rCat ta tb) σ H := fun H1 e Q q =>
  ha H1 e _ fun H2 e2 => hb H2 (e.trans e2) _ fun p ys H3 hp3 e3 h3 hn k3 => ⟨l, p, xs, ys, rfl, rfl, e3 _ _ (e2 _ _ (e _ _ hl)), h3, sz_of (by omega), fun r hr =>
    q r (xs ++ ys) _ (fresh_back (e2.trans e3) hr) ((e2.trans e3).trans (Ex.new hr)) upd_same (by rw [List.length_append]; omega) fun v hv => by
      rcases List.mem_append.mp hv with h | h
      · exact (hx.up (((e.trans e2).trans e3).trans (Ex.new hr))) v h
      · exact (k3.up (Ex.new hr)) v h⟩
theorem q_asgB {tz : TS} {D : Ends} {i : Nat} {m : Int} {n : Nat} (h : EvB K d g m n te σ H) (k : ∀ p vs H1, H p = none → Ex H H1 → H1 p = some (.lst vs) → vs.length = n → BadAll K d g m H1 vs → tz D (σ.set i (some (.ref p))) H1) : tSeq (tAsg te (gName i)) tz D σ H :=
  h H (Ex.refl H) _ fun p vs H1 h0 e h1 h2 h3 => k p vs H1 h0 e h1 h2 h3
end
section
variable {P : Program} {w : World} {K : PySem.W.Frag} {mg : Str → Option Value} {base : Heap}
def spNoPl (K : PySem.W.Frag) : Sp := fun vs H Q _ => ∃ (d g c : Addr) (s : Src) (m : Nat), vs = [.ref d, .int (m : Int)] ∧ 1 ≤ m ∧ m ≤ 24 ∧ StX H d g c s ∧ 0 ≤ s.turn ∧ s.turn < 2 ^ 899 ∧
  ∀ (H' : Hp) (s' : Src) (x : V) (o : Option (List (Option (List V)))), StX H' d g c s' → s'.cs = s.cs → s.turn ≤ s'.turn → s'.turn ≤ s.turn + 1 → Kp d g H H' → ArC K d g H' x o → okAll (m : Int) o = false → Q x H'
theorem scNpl : FnScope ["state", "many", "good", "some"] ["state", "many"] (defScope s_law_st_no_places) := ⟨rfl, rfl, rfl, by decide +kernel, rfl, by decide +kernel, by decide +kernel⟩
theorem ok_noPl {f fD fB fP : Addr} {fd fdD fdB fdP : FuncData} (F : Fun K "_law_st_no_places" "_law_st_no_places" s_law_st_no_places f fd) (B : DrB mg) (M : MxB mg) (FB : Fun K "_law_blended" "_law_blended" sBlended fB fdB) (mgB : mg "_law_blended" = some (.ref fB))
    (FD : Fun K "_law_draw" "_law_draw" sDraw fD fdD) (mgD : mg "_law_draw" = some (.ref fD)) (FP : Fun K "_law_pick" "_law_pick" sPick fP fdP) (mgP : mg "_law_pick" = some (.ref fP)) : FnOk P w K mg base CX0 4 f fd ["state", "many"] (spNoPl K) := by
  have GP : FnOk P w K mg base CX0 3 fP fdP ["state", "several"] spPick := ok_pick FP B FB mgB FD mgD
  have bP : Binds K fdP ["state", "several"] [] := FP.binds (ps := ["state", "several"]) fun _ _ _ _ _ _ us hl => match us, hl with | [_, _], _ => rfl
  refine F.ok scNpl (fun vs H Q E h => ?_) (fun cdv A outer s H vs Q E hr h => ?_)
  · obtain ⟨d, g, c, s0, m, rfl, _⟩ := h
    rfl
  · obtain ⟨d, g, c, s0, m, rfl, m1, m2, hst, t0, t1, k⟩ := h
    refine ⟨_, pss_cons (ps_set (i := 2) scNpl.nd rfl (Or.inl rfl) (pe_op op_repT0 (pe_tup (pa_cons (pe_tup (pa_cons pe_int (pa_cons pe_int pa_nil))) pa_nil)) (pe_op op_sub (pv 1) pe_int)))
      (pss_cons (ps_set (i := 3) scNpl.nd rfl (Or.inl rfl) (pe_lst (pa_cons pe_non (pa_cons pe_int (pa_cons (pv 2)
        (pa_cons (pe_op op_catA (pv 2) (pe_tup (pa_cons (pe_tup (pa_cons pe_int (pa_cons pe_int pa_nil))) (pa_cons (pe_tup (pa_cons pe_int (pa_cons pe_int pa_nil))) pa_nil))))
        (pa_cons (pe_callTy call_list_of (by rfl) M.list (by decide +kernel) (pa_cons (pe_op op_catA (pv 2) (pe_tup (pa_cons (pe_tup (pa_cons pe_int (pa_cons pe_int pa_nil))) pa_nil))) pa_nil))
        (pa_cons (pe_op op_catA (pv 2) (pe_tup (pa_cons (pe_tup (pa_cons pe_int pa_nil)) pa_nil)))
        (pa_cons (pe_op op_catA (pv 2) (pe_tup (pa_cons (pe_tup (pa_cons pe_int (pa_cons pe_int (pa_cons pe_int pa_nil)))) pa_nil)))
        (pa_cons (pe_op op_catA (pv 2) (pe_tup (pa_cons (pe_lst (pa_cons pe_int (pa_cons pe_int pa_nil))) pa_nil))) pa_nil))))))))))
      (pss_one (ps_ret (pe_call GP hr (by rfl) mgP FP.kp bP .nil pass0 (pa_cons (pv 0) (pa_cons (pe_op op_cat (pv 3) (pe_lst
        (pa_cons (pe_op op_catA (pv 2) (pe_tup (pa_cons (pe_tup (pa_cons pe_bl (pa_cons pe_int pa_nil))) pa_nil)))
        (pa_cons (pe_op op_catA (pv 2) (pe_tup (pa_cons (pe_tup (pa_cons pe_int (pa_cons pe_int pa_nil))) pa_nil)))
        (pa_cons (pe_op op_catA (pv 2) (pe_tup (pa_cons (pe_tup (pa_cons (pe_un un_neg pe_int) (pa_cons pe_int pa_nil))) pa_nil)))
        (pa_cons (pe_op op_catA (pv 2) (pe_tup (pa_cons (pe_tup (pa_cons pe_non (pa_cons pe_int pa_nil))) pa_nil)))
        (pa_cons (pe_op op_catA (pv 2) (pe_tup (pa_cons pe_int pa_nil))) pa_nil))))))) pa_nil)))))), ?_⟩
    have od : ∃ o, H d = some o := ⟨_, hst.1⟩
    have og : ∃ o, H g = some o := ⟨_, hst.2.1⟩
    have pair0 : ∀ (σ : L2.St) (H1 : Hp), EvI K d g (tTup (tCons (tC (.int 0)) (tCons (tC (.int 0)) tNil))) σ H1 (some [.int 0, .int 0]) := fun σ H1 => ei_tup (ea_cons ev_c (ea_cons ev_c ea_nil)) (fun y hy => by simp at hy; rw [hy]; rfl) (by show 2 ≤ 100; decide)
    refine q_asgG (os := List.replicate (m - 1) (some [.int 0, .int 0])) (eg_rep (pair0 _ _) (ev_is (ev_op (ev_var rfl) ev_c rv_I0) (congrArg V.int (by omega))) (by omega)) fun G xs H1 e1 hG hxs => ?_
    have st1 := hst.up e1
    have od1 : ∃ o, H1 d = some o := ⟨_, st1.1⟩
    have og1 : ∃ o, H1 g = some o := ⟨_, st1.2.1⟩
    let os : List (Option (List V)) := List.replicate (m - 1) (some [.int 0, .int 0])
    have ol : os.length = m - 1 := List.length_replicate
    have good : ∀ (σ : L2.St) (H2 : Hp), Ex H1 H2 → σ[2]? = some (some (.ref G)) → EvG K d g (tVar 2) σ H2 os := fun σ H2 e2 h2 => eg_var h2 (ex_t e2 hG) (hxs.up e2)
    have cat1 : ∀ (σ : L2.St) (H2 : Hp) {ti : TE} {o : Option (List V)}, Ex H1 H2 → σ[2]? = some (some (.ref G)) → EvI K d g ti σ H2 o → EvG K d g (tOp (rCatA K) (tVar 2) (tTup (tCons ti tNil))) σ H2 (os ++ [o]) := fun σ H2 ti o e2 h2 hi =>
      eg_cat (good σ H2 e2 h2) (eg_tup (eai_cons hi eai_nil) (by show 1 ≤ 100; decide)) (by rw [ol]; show _ + 1 ≤ 100; omega)
    have bad1 : ∀ (σ : L2.St) (H2 : Hp) {ti : TE} {o : Option (List V)}, Ex H1 H2 → σ[2]? = some (some (.ref G)) → EvI K d g ti σ H2 o → EvC K d g (tOp (rCatA K) (tVar 2) (tTup (tCons ti tNil))) σ H2 (some (os ++ [o])) := fun σ H2 ti o e2 h2 hi =>
      ec_g (cat1 σ H2 e2 h2 hi) (by rw [List.length_append, ol]; show _ + 1 ≤ 100; omega)
    have L1 := eb_cons (K := K) (d := d) (g := g) (H := H1) (σ := [some (.ref d), some (.int (m : Int)), some (.ref G), none]) (m := (m : Int)) ec_non rfl (eb_cons (ec_int (i := 0)) rfl (eb_cons (ec_g (good _ _ (Ex.refl _) rfl) (by rw [ol]; omega)) (okAll_len (by rw [ol]; omega))
      (eb_cons (ec_g (eg_cat (good _ _ (Ex.refl _) rfl) (eg_tup (eai_cons (pair0 _ _) (eai_cons (pair0 _ _) eai_nil)) (by show 2 ≤ 100; decide)) (by rw [ol]; show _ + 2 ≤ 100; omega)) (by rw [List.length_append, ol]; show _ + 2 ≤ 100; omega)) (okAll_len (by rw [List.length_append, ol]; show ((m - 1 + 2 : Nat) : Int) ≠ _; omega))
      (eb_cons (ec_list od1 og1 (cat1 _ _ (Ex.refl _) rfl (pair0 _ _))) rfl
      (eb_cons (bad1 _ _ (Ex.refl _) rfl (ei_tup (ys := [.int 0]) (ea_cons ev_c ea_nil) (fun y hy => by simp at hy; rw [hy]; rfl) (by show 1 ≤ 100; decide))) (okAll_bad rfl)
      (eb_cons (bad1 _ _ (Ex.refl _) rfl (ei_tup (ys := [.int 0, .int 0, .int 0]) (ea_cons ev_c (ea_cons ev_c (ea_cons ev_c ea_nil))) (fun y hy => by simp at hy; rw [hy]; rfl) (by show 3 ≤ 100; decide))) (okAll_bad rfl)
      (eb_cons (bad1 _ _ (Ex.refl _) rfl (ei_lst od1 og1 (ys := [.int 0, .int 0]) (ea_cons ev_c (ea_cons ev_c ea_nil)) (by show 2 ≤ 100; decide))) (okAll_bad rfl) eb_nil)))))))
    refine q_asgB (evb_lst L1 (by decide)) fun p vs H3 hpN e13 hp3 hn hbad => ?_
    have L2 := eb_cons (K := K) (d := d) (g := g) (H := H3) (σ := [some (.ref d), some (.int (m : Int)), some (.ref G), some (.ref p)]) (m := (m : Int)) (bad1 _ _ e13 rfl (ei_tup (ys := [.bl true, .int 0]) (ea_cons ev_c (ea_cons ev_c ea_nil)) (fun y hy => by simp at hy; rcases hy with h | h <;> rw [h] <;> rfl) (by show 2 ≤ 100; decide))) (okAll_bad rfl)
      (eb_cons (bad1 _ _ e13 rfl (ei_tup (ys := [.int 0, .int 1000001]) (ea_cons ev_c (ea_cons ev_c ea_nil)) (fun y hy => by simp at hy; rcases hy with h | h <;> rw [h] <;> rfl) (by show 2 ≤ 100; decide))) (okAll_bad (by decide +kernel))
      (eb_cons (bad1 _ _ e13 rfl (ei_tup (ys := [.int (-1000001), .int 0]) (ea_cons (ev_un ev_c ru_neg) (ea_cons ev_c ea_nil)) (fun y hy => by simp at hy; rcases hy with h | h <;> rw [h] <;> rfl) (by show 2 ≤ 100; decide))) (okAll_bad (by decide +kernel))
      (eb_cons (bad1 _ _ e13 rfl (ei_tup (ys := [.non, .int 0]) (ea_cons ev_c (ea_cons ev_c ea_nil)) (fun y hy => by simp at hy; rcases hy with h | h <;> rw [h] <;> rfl) (by show 2 ≤ 100; decide))) (okAll_bad (by decide +kernel))
      (eb_cons (bad1 _ _ e13 rfl (ei_int (i := 5))) (okAll_bad rfl) eb_nil))))
    refine ⟨_, rfl, evb_cat (ev_var rfl) hp3 hbad hn (evb_lst L2 (by decide)) (by decide) H3 (Ex.refl _) _ fun r ws H6 hr e36 h6 hlen hb6 => ?_⟩
    have e16 := e13.trans e36
    have nr : r ≠ g := fun z => by rw [z, e13 _ _ st1.2.1] at hr; cases hr
    refine ⟨d, g, c, r, s0, ws, rfl, st1.up e16, t0, by omega, h6, nr, by omega, by omega, fun H7 x st7 k7 hx => ?_⟩
    obtain ⟨n1, n2⟩ := next_turn s0 ws.length
    have hb := hb6 x (List.mem_of_getElem? hx)
    obtain ⟨o, h1, h2⟩ := hb
    exact k H7 _ x o st7 (next_cs _ _) n1 n2 ((Kp.of (e1.trans e16)).trans k7) (h1.kp (st1.up e16) k7) h2
end
end My
/-! calls by keywords alone -/
namespace My
open PySem PySem.Spec PyProof.Rows L2 Evl
def tCallK0 (sp : Sp) (gV : List V → List V → List V) (E : XK) (tk : TA) : TE := fun σ H Q => tk σ H fun zs H2 => sp (gV [] zs) H2 Q E
theorem pe_callK0 {X : Cx} {CX : CXT} {k : Nat} {f : Addr} {fd : FuncData} {ps ks : List Str} {sp : Sp} {E : XK} {x : Str} {p pos : Pos} {kws : List Keyword} {tk : TA} {g : List Value → List Value → List Value} {gV : List V → List V → List V}
    (F : FnOk X.prog X.w X.K X.mg X.base CX k f fd ps sp) (hr : Room k X.A) (hg : Gl X x) (hm : X.mg x = some (.ref f)) (hk : PySem.W.keepIn X.K (.ref f) = true) (hb : KBinds X.K fd ps ks g gV) (hx : Passes CX X E) (hkw : PK X kws tk)
    (hall : (backToKw pos (keywordEach kws X.env)).all (·.1.isSome) = true := by rfl) (hks : (backToKw pos (keywordEach kws X.env)).filterMap (·.1) = ks := by rfl) (hdb : (x == ("__debug__" : Str)) = false := by decide)
    (hpl : ((backTo pos (starEach [] X.env)).any (·.1) || (backToKw pos (keywordEach kws X.env)).any (·.1.isNone)) = false := by rfl) : PE X (.Call (.Name x p) [] kws pos) (tCallK0 sp gV E tk) := by
  refine ⟨fun pins s σ H Q I h => wpAny_Call_Name_kw (ld_glob I hg hm ?_ hdb)⟩
  refine PySem.W.callWith_KW0 (h₀ := X.base) I.ok.mod.kin hk hall (thn (hkw.run pos pins s σ H _ I h) fun ws s2 ⟨zs, H2, I2, rz, q2⟩ => ⟨I2.kIn, ?_⟩) hpl
  rw [hks]
  exact run_fnk (us := []) (vs := []) F hr hb hx I2 .nil rz q2
/-- two keywords, the second parameter's first -/
def g2 {α : Type} : List α → List α → List α
  | [], [p, n] => [n, p]
  | _, _ => []
theorem kb2 {K : PySem.W.Frag} {x qual : Str} {st : Stmt} {f : Addr} {fd : FuncData} {a b : Str} (F : Fun K x qual st f fd)
    (h : ∀ (kV doc pm : Value) (an : Option Addr) (cdv ct u v : Value), bindArgs (PySem.W.fnOf x qual (defArgs st) (defBody st) (defScope st) .none kV doc pm an cdv ct) ⟨[], [(b, v), (a, u)]⟩ = pure [(a, u), (b, v)]) : KBinds K fd [a, b] [b, a] g2 g2 := by
  obtain ⟨oc, od, kV, doc, pm, an, cdv, ct, osl, rfl, lk, hcd⟩ := F.ex
  refine ⟨fun s us ws X hl => ?_, fun {vs us zs ws} r1 r2 => ?_⟩
  · match us, ws, hl with
    | [], [v, u], _ => exact BindsTo.of_eq (h kV doc pm an cdv ct u v)
    | [], [], hl => cases hl
    | [], [_], hl => cases hl
    | [], _ :: _ :: _ :: _, hl => cases hl
    | _ :: _, _, hl => cases hl
  · cases r1 with
    | nil =>
      cases r2 with
      | nil => exact .nil
      | cons h1 r =>
        cases r with
        | nil => exact .nil
        | cons h2 r =>
          cases r with
          | nil => exact .cons h2 (.cons h1 .nil)
          | cons _ _ => exact .nil
    | cons _ _ => exact .nil
end My
/-! repr of faults -/
namespace My
open PySem PySem.Spec PyProof.Rows L2 Evl
def rReprD (K : PySem.W.Frag) : List V → Hp → VK → Prop := fun xs H Q => ∃ (a : Addr) (d : PyData), xs = [.ref a] ∧ Dp K H (.ref a) d ∧ d.showable = true ∧ d.hasDict = false ∧ d.depth ≤ 32 ∧ d.shown.length ≤ sizeLine ∧ Q (.str d.shown) H
theorem call_reprD {X : Cx} (hg : X.A.guards = some []) (hu : X.A.units + 64 < cLine) : CallR X (.builtin "repr") (rReprD X.K) := by
  intro pins s σ H xs us Q I r h
  obtain ⟨a, d, rfl, hd, h1, h2, h3, h4, q⟩ := h
  obtain ⟨u, rfl, ru⟩ := vals1 r
  obtain ⟨as, hr⟩ := Dp.reads I d _ _ hd ru
  cases ru
  exact repr_of_reads' hr h1 (fun z => by rw [h2] at z; cases z) hg (by omega) (fun _ _ e => e) (fun h' u tk hk => ⟨.str d.shown, H, I.kept (t' := tk) hk, ⟨u, rfl⟩, q⟩) h4
/-! ### the faults' numbers are small -/
def SmI (i : Int) : Prop := 0 ≤ i ∧ i < 1000
def Flt.sm : Flt → Prop
  | .same i j => SmI i ∧ SmI j
  | .on p t => SmI p ∧ SmI t.1 ∧ SmI t.2
  | .cross t o => SmI t.1 ∧ SmI t.2 ∧ SmI o.1 ∧ SmI o.2
theorem firstN_ex {ρ : Type} {n : Nat} {f : Nat → Option ρ} {r : ρ} (h : firstN n f = some r) : ∃ i < n, f i = some r := by
  obtain ⟨i, hi, e⟩ := List.exists_of_findSome?_eq_some h
  exact ⟨i, List.mem_range.mp hi, e⟩
theorem getD_mem {α : Type} {l : List α} {i : Nat} {d : α} (h : i < l.length) : l.getD i d ∈ l := by
  rw [List.getD_eq_getElem?_getD, List.getElem?_eq_getElem h]
  exact List.getElem_mem h
theorem fault_sm {m : Nat} {ks : List (Int × Int)} {ps : List Pt} (ok : OkNet (m : Int) ks) {r : Flt} (h : faultP m ks ps = some r) : r.sm := by
  have m2 := ok.hi
  have tie : ∀ p ∈ ks, SmI p.1 ∧ SmI p.2 := fun p hp => by
    obtain ⟨h1, h2, h3⟩ := ok.tie p hp
    exact ⟨⟨h1, by omega⟩, ⟨by omega, by omega⟩⟩
  unfold faultP at h
  rcases Option.or_eq_some_iff.mp h with h | ⟨_, h⟩
  · obtain ⟨i, hi, h⟩ := firstN_ex h
    obtain ⟨j, hj, h⟩ := firstN_ex h
    split at h
    · cases h
      exact ⟨⟨by omega, by omega⟩, ⟨by omega, by omega⟩⟩
    · cases h
  · rcases Option.or_eq_some_iff.mp h with h | ⟨_, h⟩
    · obtain ⟨i, hi, h⟩ := firstN_ex h
      obtain ⟨j, hj, h⟩ := firstN_ex h
      split at h
      · cases h
        obtain ⟨a, b⟩ := tie _ (getD_mem (d := (0, 0)) hj)
        exact ⟨⟨by omega, by omega⟩, a, b⟩
      · cases h
    · obtain ⟨i, hi, h⟩ := firstN_ex h
      obtain ⟨j, hj, h⟩ := firstN_ex h
      split at h
      · cases h
        obtain ⟨a, b⟩ := tie _ (getD_mem (d := (0, 0)) hi)
        obtain ⟨c, d⟩ := tie _ (List.mem_of_mem_drop (getD_mem (d := (0, 0)) hj))
        exact ⟨a, b, c, d⟩
      · cases h
/-! ### faults as data -/
def prD (t : Int × Int) : PyData := .tuple [.int t.1, .int t.2]
def flD : Option Flt → PyData
  | none => .none
  | some (.same i j) => .tuple [.str "same", .int i, .int j]
  | some (.on p t) => .tuple [.str "on", .int p, prD t]
  | some (.cross t o) => .tuple [.str "cross", prD t, prD o]
theorem dp_pair {K : PySem.W.Frag} {H : Hp} {x : V} {t : Int × Int} (h : PairV H x t) : Dp K H x (prD t) := by
  obtain ⟨a, rfl, h⟩ := h
  exact .tup (SqT.of h) (.cons (.int _) (.cons (.int _) .nil))
theorem dp_flt {K : PySem.W.Frag} {H : Hp} {r : Option Flt} {v : V} (h : FltO r v H) : Dp K H v (flD r) := by
  match r, h with
  | none, h =>
    have h : v = V.non := h
    rw [h]
    exact .non
  | some (.same i j), h =>
    obtain ⟨T, rfl, h2⟩ := h
    exact .tup (SqT.of h2) (.cons (.str _) (.cons (.int _) (.cons (.int _) .nil)))
  | some (.on p t), h =>
    obtain ⟨T, x, rfl, h2, hx⟩ := h
    exact .tup (SqT.of h2) (.cons (.str _) (.cons (.int _) (.cons (dp_pair hx) .nil)))
  | some (.cross t o), h =>
    obtain ⟨T, x, y, rfl, h2, hx, hy⟩ := h
    exact .tup (SqT.of h2) (.cons (.str _) (.cons (dp_pair hx) (.cons (dp_pair hy) .nil)))
theorem smI_show {i : Int} (h : SmI i) : (PyData.int i).showable = true := by
  unfold PyData.showable
  refine decide_eq_true ?_
  obtain ⟨h1, h2⟩ := h
  have : i.natAbs < 2 ^ 10 := by omega
  rcases Nat.eq_zero_or_pos i.natAbs with z | z
  · rw [z]; decide
  · have := (Nat.log2_lt (by omega)).mpr this
    omega
theorem smI_len {i : Int} (h : SmI i) : (PyData.int i).shown.length ≤ 10 := toString_length_le h.1 (by decide) (by have := h.2; omega)
theorem smI_short {i : Int} (h : SmI i) : (PyData.int i).leavesShort 10 = true := by
  unfold PyData.leavesShort
  exact decide_eq_true (smI_len h)
theorem prD_ok {t : Int × Int} (h1 : SmI t.1) (h2 : SmI t.2) : (prD t).showable = true ∧ (prD t).leavesShort 10 = true := by
  refine ⟨?_, ?_⟩
  · unfold prD
    simp only [PyData.showable, PyData.showableAll]
    have a := smI_show h1
    have b := smI_show h2
    unfold PyData.showable at a b
    rw [a, b]
    rfl
  · unfold prD
    simp only [PyData.leavesShort, PyData.leavesShortAll]
    have a := smI_short h1
    have b := smI_short h2
    unfold PyData.leavesShort at a b
    rw [a, b]
    rfl
theorem flD_ok {r : Option Flt} (h : ∀ q, r = some q → q.sm) : (flD r).showable = true ∧ (flD r).leavesShort 10 = true := by
  match r, h with
  | none, _ => exact ⟨by decide, by decide⟩
  | some (.same i j), h =>
    obtain ⟨h1, h2⟩ := h _ rfl
    have a := smI_show h1
    have b := smI_show h2
    have c := smI_short h1
    have d := smI_short h2
    refine ⟨?_, ?_⟩
    · show PyData.showable (.tuple [.str "same", .int i, .int j]) = true
      rw [PyData.showable, PyData.showableAll, PyData.showableAll, PyData.showableAll, PyData.showableAll, a, b]
      rfl
    · show PyData.leavesShort 10 (.tuple [.str "same", .int i, .int j]) = true
      rw [PyData.leavesShort, PyData.leavesShortAll, PyData.leavesShortAll, PyData.leavesShortAll, PyData.leavesShortAll, c, d]
      decide +kernel
  | some (.on p t), h =>
    obtain ⟨h1, h2, h3⟩ := h _ rfl
    have a := smI_show h1
    have c := smI_short h1
    obtain ⟨b, d⟩ := prD_ok h2 h3
    refine ⟨?_, ?_⟩
    · show PyData.showable (.tuple [.str "on", .int p, prD t]) = true
      rw [PyData.showable, PyData.showableAll, PyData.showableAll, PyData.showableAll, PyData.showableAll, a, b]
      rfl
    · show PyData.leavesShort 10 (.tuple [.str "on", .int p, prD t]) = true
      rw [PyData.leavesShort, PyData.leavesShortAll, PyData.leavesShortAll, PyData.leavesShortAll, PyData.leavesShortAll, c, d]
      decide +kernel
  | some (.cross t o), h =>
    obtain ⟨h1, h2, h3, h4⟩ := h _ rfl
    obtain ⟨a, c⟩ := prD_ok h1 h2
    obtain ⟨b, d⟩ := prD_ok h3 h4
    refine ⟨?_, ?_⟩
    · show PyData.showable (.tuple [.str "cross", prD t, prD o]) = true
      rw [PyData.showable, PyData.showableAll, PyData.showableAll, PyData.showableAll, PyData.showableAll, a, b]
      rfl
    · show PyData.leavesShort 10 (.tuple [.str "cross", prD t, prD o]) = true
      rw [PyData.leavesShort, PyData.leavesShortAll, PyData.leavesShortAll, PyData.leavesShortAll, PyData.leavesShortAll, c, d]
      decide +kernel
def flD2 (r : Option Flt) : PyData := .list [flD r, flD r]
theorem smI_w {i : Int} (h : SmI i) : (PyData.int i).weight ≤ 12 := by
  unfold PyData.weight
  obtain ⟨h1, h2⟩ := h
  have h3 : i.natAbs < 2 ^ 10 := by omega
  by_cases z : i = 0
  · subst z
    decide
  · rw [if_neg (by simpa using z)]
    have := (Nat.log2_lt (by omega)).mpr h3
    omega
theorem wt_nil : PyData.weightAll [] = 0 := by unfold PyData.weightAll; rfl
theorem wt_cons (x : PyData) (xs : List PyData) : PyData.weightAll (x :: xs) = x.weight + 1 + PyData.weightAll xs := by
  rw [PyData.weightAll]
theorem wt_tup (xs : List PyData) : (PyData.tuple xs).weight = PyData.weightAll xs := by rw [PyData.weight]
theorem flD_fix {r : Option Flt} (h : ∀ q, r = some q → q.sm) : (flD r).hasDict = false ∧ (flD r).depth ≤ 3 ∧ (flD r).weight ≤ 100 := by
  have s1 : (PyData.str "same").weight ≤ 10 := by decide +kernel
  have s2 : (PyData.str "on").weight ≤ 10 := by decide +kernel
  have s3 : (PyData.str "cross").weight ≤ 10 := by decide +kernel
  match r, h with
  | none, _ => exact ⟨by decide, by decide, by decide⟩
  | some (.same i j), h =>
    obtain ⟨h1, h2⟩ := h _ rfl
    have a := smI_w h1
    have b := smI_w h2
    refine ⟨rfl, by simp [flD, prD, PyData.depth, PyData.depthAll], ?_⟩
    show PyData.weight (.tuple [.str "same", .int i, .int j]) ≤ 100
    simp only [wt_tup, wt_cons, wt_nil]
    omega
  | some (.on p t), h =>
    obtain ⟨h1, h2, h3⟩ := h _ rfl
    have a := smI_w h1
    have b := smI_w h2
    have c := smI_w h3
    refine ⟨rfl, by simp [flD, prD, PyData.depth, PyData.depthAll], ?_⟩
    show PyData.weight (.tuple [.str "on", .int p, .tuple [.int t.1, .int t.2]]) ≤ 100
    simp only [wt_tup, wt_cons, wt_nil]
    omega
  | some (.cross t o), h =>
    obtain ⟨h1, h2, h3, h4⟩ := h _ rfl
    have a := smI_w h1
    have b := smI_w h2
    have c := smI_w h3
    have d := smI_w h4
    refine ⟨rfl, by simp [flD, prD, PyData.depth, PyData.depthAll], ?_⟩
    show PyData.weight (.tuple [.str "cross", .tuple [.int t.1, .int t.2], .tuple [.int o.1, .int o.2]]) ≤ 100
    simp only [wt_tup, wt_cons, wt_nil]
    omega
theorem flD2_ok {r : Option Flt} (h : ∀ q, r = some q → q.sm) : (flD2 r).showable = true ∧ (flD2 r).hasDict = false ∧ (flD2 r).depth ≤ 32 ∧ (flD2 r).shown.length ≤ sizeLine := by
  obtain ⟨a, b⟩ := flD_ok h
  obtain ⟨c, d, e⟩ := flD_fix h
  refine ⟨?_, ?_, ?_, ?_⟩
  · show PyData.showable (.list [flD r, flD r]) = true
    rw [PyData.showable, PyData.showableAll, PyData.showableAll, PyData.showableAll, a]
    rfl
  · show PyData.hasDict (.list [flD r, flD r]) = false
    rw [PyData.hasDict, PyData.hasDictAll, PyData.hasDictAll, PyData.hasDictAll, c]
    rfl
  · show PyData.depth (.list [flD r, flD r]) ≤ 32
    rw [PyData.depth, PyData.depthAll, PyData.depthAll, PyData.depthAll]
    omega
  · have s := PyData.shown_le 10 (by decide) (flD2 r) (by
      show PyData.leavesShort 10 (.list [flD r, flD r]) = true
      rw [PyData.leavesShort, PyData.leavesShortAll, PyData.leavesShortAll, PyData.leavesShortAll, b]
      rfl)
    have wt : (flD2 r).weight ≤ 210 := by
      show PyData.weight (.list [flD r, flD r]) ≤ 210
      rw [PyData.weight, PyData.weightAll, PyData.weightAll, PyData.weightAll]
      omega
    have : (4000 : Nat) ≤ sizeLine := by decide
    omega
/-- repr of a list of one fault twice -/
theorem ev_repF {K : PySem.W.Frag} {σ : L2.St} {H : Hp} {te : TE} {r : Option Flt} (hs : ∀ q, r = some q → q.sm)
    (h : ∀ H1, Ex H H1 → ∀ Q : VK, (∀ p x y H2, Ex H1 H2 → H2 p = some (.lst [x, y]) → FltO r x H2 → FltO r y H2 → Q (.ref p) H2) → te σ H1 Q) : Ev (tCB (rReprD K) (tCons te tNil)) σ H (.str (flD2 r).shown) := fun H1 e Q q =>
  h H1 e _ fun p x y H2 e2 hp hx hy => by
    obtain ⟨s1, s2, s3, s4⟩ := flD2_ok hs
    exact ⟨p, flD2 r, rfl, Dp.lst (SqL.of hp) (.cons (dp_flt hx) (.cons (dp_flt hy) .nil)), s1, s2, s3, s4, q H2 e2⟩
theorem FltO.up {r : Option Flt} {v : V} {H H' : Hp} (e : Ex H H') (h : FltO r v H) : FltO r v H' := by
  match r, h with
  | none, h => exact h
  | some (.same i j), ⟨T, h1, h2⟩ => exact ⟨T, h1, e _ _ h2⟩
  | some (.on p t), ⟨T, x, h1, h2, h3⟩ => exact ⟨T, x, h1, e _ _ h2, h3.up e⟩
  | some (.cross t o), ⟨T, x, y, h1, h2, h3, h4⟩ => exact ⟨T, x, y, h1, e _ _ h2, h3.up e, h4.up e⟩
theorem flt_none {r : Option Flt} {v : V} {H : Hp} (h : FltO r v H) : decide (v = V.non) = r.isNone := by
  match r, h with
  | none, h => exact decide_eq_true h
  | some (.same i j), ⟨T, h, _⟩ => exact decide_eq_false fun z => by rw [h] at z; cases z
  | some (.on p t), ⟨T, x, h, _⟩ => exact decide_eq_false fun z => by rw [h] at z; cases z
  | some (.cross t o), ⟨T, x, y, h, _⟩ => exact decide_eq_false fun z => by rw [h] at z; cases z
end My
/-! tables of code objects: what stays; a lambda handed to _law_caught -/
namespace My
open PySem PySem.Spec PyProof.Rows L2 Evl LamX Kpt
section
variable {K : PySem.W.Frag} {H H' : Hp}
theorem ExtN.tup (e : ExtN H H') {a : Addr} {xs : List V} (h : H a = some (.tup xs)) : H' a = some (.tup xs) := e _ _ h fun _ z => by cases z
theorem ExtN.lst (e : ExtN H H') {a : Addr} {xs : List V} (h : H a = some (.lst xs)) : H' a = some (.lst xs) := e _ _ h fun _ z => by cases z
theorem sqt_xn (e : ExtN H H') {a : Addr} {xs : List V} (h : SqT K H a xs) : SqT K H' a xs := by
  rcases h with (h | ⟨o, h⟩) | h
  · exact .inl (.inl (ExtN.tup e h))
  · exact .inl (.inr ⟨o, e _ _ h fun _ z => by cases z⟩)
  · exact .inr h
theorem PairV.xn (e : ExtN H H') {x : V} {p : Int × Int} (h : PairV H x p) : PairV H' x p := let ⟨t, h1, h2⟩ := h; ⟨t, h1, ExtN.tup e h2⟩
theorem PrL.xn (e : ExtN H H') : ∀ {xs ps}, PrL H xs ps → PrL H' xs ps
  | _, _, .nil => .nil
  | _, _, .cons h r => .cons (PairV.xn e h) (PrL.xn e r)
theorem StX.xn (e : ExtN H H') {d g c : Addr} {s : Src} (h : StX H d g c s) : StX H' d g c s :=
  ⟨e _ _ h.1 fun _ z => (by cases z), ExtN.lst e h.2.1, ExtN.lst e h.2.2.1, h.2.2.2⟩
theorem NetV.xn (e : ExtN H H') {C : Addr} {x : V} {m : Int} {ks : List (Int × Int)} (h : NetV K C H x m ks) : NetV K C H' x m ks :=
  let ⟨s, dx, a, xs, h1, h2, h3, h4⟩ := h
  ⟨s, dx, a, xs, h1, e _ _ h2 fun _ z => (by cases z), sqt_xn e h3, PrL.xn e h4⟩
theorem NetV.kp {d g c : Addr} {s : Src} (st : StX H d g c s) (k : Kp d g H H') {C : Addr} {x : V} {m : Int} {ks : List (Int × Int)} (h : NetV K C H x m ks) : NetV K C H' x m ks :=
  let ⟨s, dx, a, xs, h1, h2, h3, h4⟩ := h
  ⟨s, dx, a, xs, h1, k _ _ (ne_of h2 st.1 (by intro q; cases q)) (ne_of h2 st.2.1 (by intro q; cases q)) h2, sqt_kp st k h3, PrL.kp st k h4⟩
theorem ItC.xn (e : ExtN H H') {d g : Addr} {x : V} {o : Option (List V)} (h : ItC K d g H x o) : ItC K d g H' x o := by
  cases h with
  | tup h1 h2 h3 => exact .tup (sqt_xn e h1) h2 h3
  | int i => exact .int i
  | lst h1 h2 h3 => exact .lst (ExtN.lst e h1) h2 h3
theorem ItCs.xn (e : ExtN H H') {d g : Addr} : ∀ {xs os}, ItCs K d g H xs os → ItCs K d g H' xs os
  | _, _, .nil => .nil
  | _, _, .cons h r => .cons (ItC.xn e h) (ItCs.xn e r)
theorem ArC.xn (e : ExtN H H') {d g : Addr} {x : V} {o} (h : ArC K d g H x o) : ArC K d g H' x o := by
  cases h with
  | tup h1 h2 h3 => exact .tup (sqt_xn e h1) (ItCs.xn e h2) h3
  | non => exact .non
  | int i => exact .int i
  | lst h1 h2 h3 => exact .lst (ExtN.lst e h1) h2 h3
theorem codeO_nd {c : Addr} {q : Str} {o : HO} (h : ∀ p, o ≠ .ext p) : CodeO c q ≠ o := fun z => h _ z.symm
theorem tabs_kp {T : List (Addr × Str)} {d g c : Addr} {s : Src} (st : StX H d g c s) (k : Kp d g H H') (h : Tabs T H) : Tabs T H' := fun p hp => by
  obtain ⟨ps, h1, h2, h3⟩ := h p hp
  refine ⟨ps, k _ _ (ne_of h1 st.1 (by intro q; cases q)) (ne_of h1 st.2.1 (by intro q; cases q)) h1, h2, fun pos cv hc => ?_⟩
  obtain ⟨c', e1, e2⟩ := h3 pos cv hc
  exact ⟨c', e1, k _ _ (ne_of e2 st.1 (by intro q; cases q)) (ne_of e2 st.2.1 (by intro q; cases q)) e2⟩
end
/-- if not isinstance(_law_caught(lambda: ..), X): the lambda raises X -/
theorem s_caught {K : PySem.W.Frag} {T : List (Addr × Str)} {DE CE : Addr} {t : XK → TE} {tu : TS} {D : Ends} {σ : L2.St} {H : Hp} (R : Hp → Hp → Prop) (hT : Tabs T H) (hx : PySem.W.exmOne K (.ref CE) (.ref DE) = some true) (hc : ExcC K CE)
    (ht : ∀ H1, ExtN H H1 → Tabs T H1 → ∀ (E : XK) (Q : VK), (∀ H2, R H1 H2 → E (.ref CE) none H2) → t E σ H1 Q)
    (k : ∀ H1 H2 H3, ExtN H H1 → Tabs T H1 → R H1 H2 → Ex H2 H3 → D.nx σ H3) :
    tIfS (tNot (tB (tCB (rIsK K) (tCons (tLam T (TKeep K DE) t) (tCons (tC (.ref CE)) tNil))))) tu tNext D σ H := by
  refine ⟨hT, fun H1 e1 T1 => ht H1 e1 T1 _ _ fun H2 r => ⟨hx, fun a ha => ?_⟩⟩
  refine ⟨a, CE, .ref CE, .ref CE, true, rfl, upd_same, hc, .own _, kit_self, true, rfl, ?_⟩
  exact k H1 H2 _ e1 T1 r (Ex.new ha)
end My
/-! the end of a law whose def holds lambdas and asks repr: its table, no repr under way -/
namespace L2
open PySem PySem.Spec PyProof.Rows
/-- a def's promise, kept where no repr is under way -/
structure FnOkG (P : Program) (w : World) (K : PySem.W.Frag) (mg : Str → Option Value) (base : Heap) (CX : CXT) (k : Nat) (f : Addr) (fd : FuncData) (ps : List Str) (sp : Sp) : Prop where
  len : ∀ vs H Q E, sp vs H Q E → vs.length = ps.length
  run : ∀ (A : Around) (outer : List Env) (s : Shared) (H : Hp) (args : Args) (us : List Value) (vs : List V) (Q : VK) (E : XK), A.guards = some [] → Room k A → Env0 P w K mg base A outer s H → BindsTo s fd args (ps.zip us) → Vals vs us → sp vs H Q E →
    codeAny (model P w) A (.call (.ref f) args) (CR CX outer P w H s Q E) s
section
variable {P : Program} {w : World} {K : PySem.W.Frag} {mg : Str → Option Value} {base : Heap} {CX : CXT}
/-- THE RULE for such a def -/
theorem okG {x qual : Str} {params : Arguments} {body : List Stmt} {scope : Scope} {f : Addr} {fd : FuncData} {N ps : List Str} {k : Nat} {sp : Sp}
    (F : ∃ (oc : Value) (od : Option Addr) (dV kV doc pm : Value) (an : Option Addr) (cdv ct : Value) (osl : Array (Option Value)), fd = PySem.W.fnOf x qual params body scope dV kV doc pm an cdv ct ∧ K.lookup f = some ⟨oc, od, .func fd, osl⟩ ∧ PySem.W.codeIn K cdv qual = true)
    (S : FnScope N ps scope) (len : ∀ vs H Q E, sp vs H Q E → vs.length = ps.length)
    (hbody : ∀ (cdv : Value), fd.code = cdv → ∀ (A : Around) (outer : List Env) (s : Shared) (H : Hp) (vs : List V) (Q : VK) (E : XK), A.guards = some [] → Room k (A.deeper (envOfC qual scope s.heap.objs.size f cdv)) → sp vs H Q E →
      ∃ t, PSs (cxOf CX P w K mg base N qual scope f cdv A outer s H E) body t ∧ t { nx := fun _ H' => Q .non H', rt := Q } (start N vs) H) : FnOkG P w K mg base CX (k + 1) f fd ps sp := by
  obtain ⟨oc, od, dV, kV, doc, pm, an, cdv, ct, osl, rfl, lk, hcd⟩ := F
  refine ⟨len, fun A outer s H args us vs Q E hg hr e0 hb rv hsp => ?_⟩
  have hl := len _ _ _ _ hsp
  have hkeep : ∀ b o, base.get? b = some o → s.heap.get? b = some o := fun b o e => (e0.bs b o e).1
  have KX : K.In s.heap := e0.mod.kin.keeps hkeep
  have lim : s.heap.NoLimit := e0.mod.nolimit.keeps hkeep
  refine codeAny_call_function hr.depth (KX _ _ lk) rfl S.co S.gen rfl (PySem.W.codeRec_of KX hcd) (hb _ _ _ _ ?_)
  refine wpAny_newFunctionEnv_cells S.kind (fun ⟨n, v⟩ hy => ?_) fun env he s1 ic => ?_
  · rcases S.par n (List.of_mem_zip hy).1 with q | q
    · exact .inl q
    · exact .inr ⟨q, PySem.W.cellsFrom_some _ _ _ (.inl q)⟩
  · subst he
    refine ⟨lim.keeps ic.toInCall.keep, codeAny_func ?_⟩
    obtain ⟨t, ht, hq⟩ := hbody cdv rfl A outer s H vs Q E hg (hr.deeper _) hsp
    refine wpAny_mono (ht.run [] s1 (start N vs) H _ (inv_start S hr.hd e0 hl rv ic) hq) (fun fl s' hs => ?_) fun e s' hs => hs
    cases fl with
    | ret u =>
      obtain ⟨v, σ', H', J, r', q⟩ := hs
      exact ⟨v, H', J.os, J.bare, J.base, J.hok, r', q⟩
    | next =>
      obtain ⟨σ', H', J, q⟩ := hs
      exact ⟨.non, H', J.os, J.bare, J.base, J.hok, rfl, q⟩
    | brk => exact False.elim (let ⟨_, _, _, q⟩ := hs; q)
    | cont => exact False.elim (let ⟨_, _, _, q⟩ := hs; q)
end
end L2
namespace LamX
open PySem PySem.Spec PyProof.Rows L2
/-- law_call with tables: cs, the code objects and their tables -/
theorem law_callTG {P : Program} {w : World} {K : PySem.W.Frag} {mg mb : Str → Option Value} {CX : CXT} {k : Nat} {fa a : Addr} {cs : List (Addr × Addr)} {fd : FuncData} {x : Str} {sp : Sp} {s₁ : Shared} {vs : List Value} {ns : List Int}
    (kX : K.In s₁.heap) (hnm : s₁.heap.Ns mainGlobals mg) (nb : s₁.heap.Ns builtinsNs mb) (nbb : ∀ x : Str, x ≠ "__name__" → mb x = bootBuiltins x) (lim : s₁.heap.NoLimit) (gn : s₁.gens = #[])
    (tE : ∀ p ∈ cs, s₁.heap.get? p.2 = some { cls := .none, data := .fields #[] }) (tN : ∀ p ∈ cs, K.lookup p.2 = none) (tC : ∀ p ∈ cs, PySem.W.CodeHd s₁.heap p.1 p.2)
    (hmn : ∃ (bmo : Addr) (obj : Obj), mg "__builtins__" = some (.ref bmo) ∧ bmo ≠ builtinsNs ∧ s₁.heap.get? bmo = some obj ∧ obj.cls = .type "module" ∧ obj.dict = some builtinsNs ∧ obj.data = .plain)
    (hAd : s₁.heap.get? a = some { cls := .type "list", data := .seq vs.toArray }) (hInt : IntsAre vs ns) (hln : ns.length ≤ sizeLine) (rm : Room k callerA)
    (F : ∀ base : Heap, K.In base → base.Ns mainGlobals mg → (∀ p ∈ cs, TabB base mg p.1 p.2) → FnOkG P w K mg base CX k fa fd [x] sp) (bnd : ∀ (s : Shared) (uu : Value), BindsTo s fd ⟨[uu], []⟩ [(x, uu)])
    (spH : ∀ Hq : Hp, (∀ p ∈ cs, Hq p.2 = some (.tbl #[])) → SqL K Hq a (ns.map V.int) → sp [.ref a] Hq (fun v _ => v = .bl true) fun _ _ _ => False)
    (cxH : ∀ Hq ee s', CX [] Hq s₁ (fun _ _ _ => False) ee s' → False) :
    codeAny (model P w) callerA (.call (.ref fa) ⟨[.ref a], []⟩) (fun r s' => r = .ok (.ret (.bool true)) ∧ OldK s₁.heap s'.heap ∧ s'.os = s₁.os ∧ AllBare s'.gens) s₁ := by
  have rvs := vals_ints hInt
  have lnV := hInt.length
  have tbO : ∀ bb : Addr, bb ∈ cs.map (·.2) → s₁.heap.get? bb = some { cls := .none, data := .fields #[] } := fun bb nb => by
    obtain ⟨p, hp, ee⟩ := List.mem_map.mp nb
    rw [← ee]
    exact tE p hp
  have aNo : a ∉ cs.map (·.2) := fun zz => by
    have qq := tbO a zz
    rw [hAd] at qq
    have z' : Data.seq vs.toArray _ = Data.fields #[] := congrArg Obj.data (Option.some.inj qq)
    cases z'
  have tbM : ∀ p ∈ cs, p.2 ∈ cs.map (·.2) := fun p hp => List.mem_map.mpr ⟨p, hp, rfl⟩
  -- from an abstract heap in which nothing but the script and the tables may be tracked
  have heart : ∀ Hq : Hp, (∀ p ∈ cs, Hq p.2 = some (.tbl #[])) → (∀ bb, Hq bb = none ∨ bb ∈ cs.map (·.2) ∨ ∃ oo xs, Hq bb = some (.frz oo (.lst xs))) → SqL K Hq a (ns.map V.int) → HOk P w Hq s₁.heap → (∀ bb, Hq bb ≠ none → bb = a ∨ bb ∈ cs.map (·.2)) → (Hq a ≠ none → K.lookup a = none) →
      codeAny (model P w) callerA (.call (.ref fa) ⟨[.ref a], []⟩) (fun r s' => r = .ok (.ret (.bool true)) ∧ OldK s₁.heap s'.heap ∧ s'.os = s₁.os ∧ AllBare s'.gens) s₁ := by
    intro Hq hTb hOn hSq hOk hAt hKn
    have stays : ∀ {bb : Addr} {oo : Obj}, s₁.heap.get? bb = some oo → Hq bb = none → (hidT s₁.heap Hq).get? bb = some oo := fun ee n => hidT_get ee n
    have noT : ∀ {bb : Addr} {oo : Obj}, s₁.heap.get? bb = some oo → (∀ vs n, oo.data ≠ .seq vs n) → oo.data ≠ .fields #[] → Hq bb = none := fun {bb oo} ee h1 h2 => by
      cases qq : Hq bb with
      | none => rfl
      | some uu =>
        rcases hAt bb (by rw [qq]; simp) with e' | e'
        · rw [e', hAd] at ee
          cases ee
          exact (h1 _ _ rfl).elim
        · rw [tbO bb e'] at ee
          cases ee
          exact (h2 rfl).elim
    have noS : ∀ {bb : Addr} {oo : Obj} {ents : Array DictEntry} {epo : Nat}, s₁.heap.get? bb = some oo → oo.data = .dict ents epo → Hq bb = none := fun {bb oo ents epo} ee d => by
      refine noT ee (fun vs n zz => ?_) fun zz => ?_
      · rw [d] at zz
        cases zz
      · rw [d] at zz
        cases zz
    have nsS : ∀ {bb : Addr} {m : Str → Option Value}, s₁.heap.Ns bb m → (hidT s₁.heap Hq).Ns bb m := fun {bb m} ⟨oo, ents, epo, ee, d, r⟩ => ⟨oo, ents, epo, stays ee (noS ee d), d, r⟩
    have kIn : K.In (hidT s₁.heap Hq) := fun bb oo ee => stays (kX bb oo ee) (by
      cases qq : Hq bb with
      | none => rfl
      | some uu =>
        rcases hAt bb (by rw [qq]; simp) with e' | e'
        · rw [e'] at ee qq
          rw [hKn (by rw [qq]; simp)] at ee
          cases ee
        · obtain ⟨p, hp, epo⟩ := List.mem_map.mp e'
          rw [← epo, tN p hp] at ee
          cases ee)
    have md : L2.Mod K mg (hidT s₁.heap Hq) := ⟨kIn, nsS hnm, ⟨mb, nsS nb, nbb⟩, let ⟨mc, h1, h2⟩ := lim; ⟨mc, nsS h1, h2⟩⟩
    have tbB : ∀ p ∈ cs, TabB (hidT s₁.heap Hq) mg p.1 p.2 := fun p hp => by
      have hTp := tE p hp
      refine ⟨?_, ?_, fun zz => ?_⟩
      · obtain ⟨oo, us, file, tf, flags, tg, inF, text, tt, e1, r1, r2, r3, r4, r5, r6, r7, r8, hne⟩ := tC p hp
        refine ⟨oo, us, file, tf, flags, tg, inF, text, tt, stays e1 (noT e1 (fun vs n zz => ?_) fun zz => ?_), r1, r2, r3, r4, r5, r6, r7, r8, hne⟩
        · rw [r2] at zz
          cases zz
        · rw [r2] at zz
          cases zz
          simp at r3
      · obtain ⟨bmo, obj, b1, b2, b3, b4, b5, b6⟩ := hmn
        have nG : bmo ≠ mainGlobals := fun qq => by
          obtain ⟨oo, ents, epo, ee, hd, _⟩ := hnm
          rw [qq, ee] at b3
          cases b3
          rw [hd] at b6
          cases b6
        have nP : bmo ≠ p.2 := fun qq => by
          rw [qq, hTp] at b3
          cases b3
          cases b6
        refine ⟨bmo, obj, b1, b2, nG, nP, stays b3 (noT b3 (fun vs n zz => ?_) fun zz => ?_), b4, b5, b6⟩
        · rw [b6] at zz
          cases zz
        · rw [b6] at zz
          cases zz
      · obtain ⟨oo, ents, epo, ee, hd, _⟩ := hnm
        rw [zz, hTp] at ee
        cases ee
        cases hd
    have e0 : Env0 P w K mg (hidT s₁.heap Hq) callerA [] s₁ Hq := ⟨rfl, md, fun bb oo ee => of_hidT ee, Nat.le_of_eq (hidT_size _ _), trivial, fun bb nb => absurd (show bb ∈ ([] : List Addr) from nb) (by simp), hOk, .of_eq gn⟩
    refine codeAny_mono ((F _ kIn (nsS hnm) tbB).run callerA [] s₁ Hq ⟨[.ref a], []⟩ [.ref a] [.ref a] _ _ rfl rm e0 (bnd s₁ (.ref a)) (.cons rfl .nil) (spH Hq hTb hSq)) fun r s' h => ?_
    cases r with
    | error ee => exact (cxH Hq ee s' h).elim
    | ok fl =>
      cases fl with
      | next => exact False.elim h
      | brk => exact False.elim h
      | cont => exact False.elim h
      | ret uu =>
        obtain ⟨v, H', os, bare, un, hok', r', qq⟩ := h
        have q' : v = .bl true := qq
        subst q'
        obtain rfl : uu = Value.bool true := r'
        have keptO : ∀ bb oo, bb ∉ cs.map (·.2) → s₁.heap.get? bb = some oo → s'.heap.get? bb = some oo := fun bb oo nb ee => by
          cases qq : Hq bb with
          | none => exact un.keep bb oo ee qq (by intro zz; exact absurd (show bb ∈ ([] : List Addr) from zz) (by simp)) (by simp)
          | some uu =>
            rcases hOn bb with zz | zz | ⟨obj, xs, zz⟩
            · rw [qq] at zz; cases zz
            · exact absurd zz nb
            · have z2 := un.frzs bb obj _ zz
              obtain ⟨e1, _⟩ := hOk bb _ zz
              obtain ⟨e2, _⟩ := hok' bb _ z2
              rw [ee] at e1; cases e1
              exact e2
        have moreT : ∀ p ∈ cs, ∃ more : Array Value, s'.heap.get? p.2 = some { cls := .none, data := .fields more } := fun p hp => by
          obtain ⟨more, zz⟩ := un.tbls p.2 #[] (hTb p hp)
          exact ⟨_, hok' p.2 _ zz⟩
        refine ⟨rfl, ⟨fun bb oo ee => ?_, fun bb oo ee => ?_⟩, os, bare⟩
        · by_cases nb : bb ∈ cs.map (·.2)
          · obtain ⟨p, hp, epo⟩ := List.mem_map.mp nb
            obtain ⟨more, hm⟩ := moreT p hp
            rw [← epo] at ee ⊢
            rw [tE p hp] at ee
            cases ee
            exact .inr (.inl ⟨((tC p hp).tab (tE p hp)).isCodeTable, rfl, #[], more, rfl, by rw [Array.empty_append]; exact hm⟩)
          · exact .inl (keptO bb oo nb ee)
        · by_cases nb : bb ∈ cs.map (·.2)
          · obtain ⟨p, hp, epo⟩ := List.mem_map.mp nb
            obtain ⟨more, hm⟩ := moreT p hp
            rw [← epo]
            exact ⟨_, hm⟩
          · exact ⟨oo, keptO bb oo nb ee⟩
  cases hk : K.lookup a with
  | some oo =>
    have ee := kX a oo hk
    rw [hAd] at ee
    cases ee
    refine heart (fun bb => if bb ∈ cs.map (·.2) then some (.tbl #[]) else none) (fun p hp => if_pos (tbM p hp)) (fun bb => ?_) (.inr ⟨_, vs.toArray, _, hk, rfl, rfl, rfl, by rw [List.size_toArray, lnV]; exact hln, by simpa using rvs⟩) (fun bb uu zz => ?_) (fun bb zz => ?_) fun zz => absurd (show (if a ∈ cs.map (·.2) then some (HO.tbl #[]) else none) = none from if_neg aNo) zz
    · by_cases nb : bb ∈ cs.map (·.2)
      · exact .inr (.inl nb)
      · exact .inl (if_neg nb)
    · by_cases nb : bb ∈ cs.map (·.2)
      · have z' := (if_pos nb).symm.trans zz
        cases z'
        exact tbO bb nb
      · have z' := (if_neg nb).symm.trans zz
        cases z'
    · by_cases nb : bb ∈ cs.map (·.2)
      · exact .inr nb
      · exact absurd (if_neg nb) zz
  | none =>
    refine heart (fun bb => if bb = a then some (.frz { cls := .type "list", data := .seq vs.toArray } (.lst (ns.map V.int))) else if bb ∈ cs.map (·.2) then some (.tbl #[]) else none) (fun p hp => (if_neg (show ¬ p.2 = a from fun zz => aNo (by rw [← zz]; exact tbM p hp))).trans (if_pos (tbM p hp))) (fun bb => ?_)
      (.inl (.inr ⟨{ cls := .type "list", data := .seq vs.toArray }, if_pos rfl⟩)) (fun bb uu zz => ?_) (fun bb zz => ?_) fun _ => hk
    · by_cases nb : bb = a
      · exact .inr (.inr ⟨_, _, if_pos nb⟩)
      · by_cases hb2 : bb ∈ cs.map (·.2)
        · exact .inr (.inl hb2)
        · exact .inl ((if_neg nb).trans (if_neg hb2))
    · by_cases nb : bb = a
      · have z' := (if_pos nb).symm.trans zz
        cases z'
        rw [nb]
        exact ⟨hAd, by rw [List.length_map]; exact hln, vs, _, rvs, hAd⟩
      · have z1 := (if_neg nb).symm.trans zz
        by_cases hb2 : bb ∈ cs.map (·.2)
        · have z' := (if_pos hb2).symm.trans z1
          cases z'
          exact tbO bb hb2
        · have z' := (if_neg hb2).symm.trans z1
          cases z'
    · by_cases nb : bb = a
      · exact .inl nb
      · by_cases hb2 : bb ∈ cs.map (·.2)
        · exact .inr hb2
        · exact absurd ((if_neg nb).trans (if_neg hb2)) zz
/-- what is told of the law's promise at the head's heap h -/
def LawAtG (l : PySem.W.OpenLaw) (w : World) (K : PySem.W.Frag) (CX : CXT) (k n : Nat) (x : Str) (mg : Str → Option Value) (fa : Addr) (h : Heap) : Prop :=
  ∃ (fd : FuncData) (tabs : List (Addr × Addr)) (sp : Sp), (∀ p ∈ tabs, h.get? p.2 = some { cls := .none, data := .fields #[] }) ∧ (∀ p ∈ tabs, K.lookup p.2 = none) ∧ (∀ p ∈ tabs, PySem.W.CodeHd h p.1 p.2) ∧
    (∀ (s : Shared) (u : Value), BindsTo s fd ⟨[u], []⟩ [(x, u)]) ∧ (∀ (H : Hp) (a : Addr) (ns : List Int), ns.length ≤ n → (∀ p ∈ tabs, H p.2 = some (.tbl #[])) → SqL K H a (ns.map V.int) → sp [.ref a] H (fun v _ => v = .bl true) fun _ _ _ => False) ∧
    ∀ base : Heap, K.In base → base.Ns mainGlobals mg → (∀ p ∈ tabs, TabB base mg p.1 p.2) → FnOkG l.prog w K mg base CX k fa fd [x] sp
/-- the end, by such a Hook -/
theorem walk_ofTG {l : PySem.W.OpenLaw} {n k : Nat} {q : Program} {loose : List Str} {XP : (Str → Option Value) → Heap → Prop} {YP : World → Heap → Prop} {d : DefRec} {CX : CXT} {x : Str} (hn : l.most = some n) (hn2 : n ≤ sizeLine) (hdf : d.params.defaults = []) (hr : Room k callerA)
    (F : ∀ (w : World) (mg : Str → Option Value) (fa : Addr) (h : Heap), YP w h → h.Ns mainGlobals mg → mg d.name = some (.ref fa) → ∃ K : PySem.W.Frag, K.In h ∧ LawAtG l w K CX k n x mg fa h) (hCX : ∀ (H : Hp) (s : Shared) (e : Value) (s' : Shared), CX [] H s (fun _ _ _ => False) e s' → False) :
    PySem.W.WalkO q loose XP YP l.row.toRowW d [] (fun f vs => PySem.call f vs) := by
  refine Att.attach_callB hn hdf fun w s₀ s₁ mg mb fa o pm cd doc a vs ns G Y ho hd hcd hmg hobj hints hlen hbits hg => ?_
  obtain ⟨K, KX, fd, tabs, sp, hT, nT, C, hb, hsp, hF⟩ := F w mg fa _ Y G.T.g hmg
  exact law_callTG KX G.T.g G.T.b G.T.builtins G.T.nolimit hg hT nT C G.T.bmain hobj hints (Nat.le_trans hlen hn2) hr hF hb (fun H hH hS => hsp H a ns hlen hH hS) fun H e s' => hCX H s₁ e s'
end LamX
/-! the law -/
namespace My
open PySem PySem.Spec PyProof.Rows L2 Evl LamX
/-- a def that may be called by its name -/
structure CalX (P : Program) (w : World) (K : PySem.W.Frag) (mg : Str → Option Value) (base : Heap) (CX : CXT) (k : Nat) (x : Str) (ps : List Str) (sp : Sp) (f : Addr) (fd : FuncData) : Prop where
  ok : FnOk P w K mg base CX k f fd ps sp
  g : mg x = some (.ref f)
  kp : PySem.W.keepIn K (.ref f) = true
  b : Binds K fd ps []
structure LwB (mg : Str → Option Value) : Prop where
  rng : mg "range" = none
  min : mg "min" = none
  max : mg "max" = none
  isi : mg "isinstance" = none
  rep : mg "repr" = none
  list : mg "list" = none
abbrev nLw : List Str := ["script", "state", "turn", "reach", "many", "ties", "places_here", "net", "lap", "some", "place", "due", "wrong"]
theorem scLw : FnScope nLw ["script"] (defScope s_law) := ⟨rfl, rfl, rfl, by decide +kernel, rfl, by decide +kernel, by decide +kernel⟩
def spLaw (K : PySem.W.Frag) (PT : Addr) : Sp := fun vs H Q _ => ∃ (a : Addr) (ns : List Int), vs = [.ref a] ∧ SqL K H a (ns.map V.int) ∧ ns.length ≤ 63 ∧ H PT = some (.tbl #[]) ∧ ∀ H', Q (.bl true) H'
theorem iteB {A B : Prop} {b : Bool} (h1 : b = true → A) (h2 : b = false → B) : if b = true then A else B := by
  cases b with
  | true => exact iteT (h1 rfl)
  | false => exact iteF (h2 rfl)
theorem ev_callK0 {sp : Sp} {gV : List V → List V → List V} {zs : List V} {E : XK} {tk : TA} {σ : L2.St} {H : Hp} {z : V} (h : EvA tk σ H zs) (hs : SpV sp (gV [] zs) H z) : Ev (tCallK0 sp gV E tk) σ H z := fun H1 e Q q => h H1 e _ fun H2 e2 => hs H2 (e.trans e2) Q (fun H3 e3 => q H3 (e2.trans e3)) E
/-- the farthest number of a list is no more than M -/
theorem et_far {K : PySem.W.Frag} {σ : L2.St} {H : Hp} {tl tp : TE} {ns : List Int} {M : Int} (h : EvL tl σ H (ns.map V.int)) (hp : Ev tp σ H (.int M)) (hne : 0 < ns.length) (hle : ∀ y ∈ ns, y ≤ M) :
    EvT (tTest (tOp (rI0 fun i j => .bl (decide (j < i))) (tCB (rMax K) (tCons tl tNil)) tp)) σ H false := fun H1 e Q q => h H1 e _ fun p H2 _ e2 hp2 => ⟨p, ns, rfl, SqL.of hp2, hne, fun mm hm _ => hp H2 (e.trans e2) _ fun H3 e3 => ⟨mm, M, rfl, rfl, false, by
  have := hle mm hm
  exact congrArg V.bl (decide_eq_false (by omega)), q H3 (e2.trans e3)⟩⟩
def farI (p : Pt) : Int := if (if p.2 < 0 then -p.2 else p.2) > (if p.1 < 0 then -p.1 else p.1) then (if p.2 < 0 then -p.2 else p.2) else (if p.1 < 0 then -p.1 else p.1)
theorem far_near {p : Pt} (h : Near p) : farI p ≤ 1000000 := by
  obtain ⟨h1, h2, h3, h4⟩ := h
  unfold farI
  split <;> split <;> omega
theorem ev_absI {σ : L2.St} {H : Hp} {te : TE} {i : Int} (h : Ev te σ H (.int i)) : Ev (tCB (fun xs H Q => ∃ i, xs = [V.int i] ∧ Q (.int (if i < 0 then -i else i)) H) (tCons te tNil)) σ H (.int (if i < 0 then -i else i)) := ev_cb (ea_cons h ea_nil) fun H1 _ Q q => ⟨i, rfl, q H1 (Ex.refl _)⟩
theorem rv_isN {H : Hp} {v : V} : RV (fun x y H Q => y = V.non ∧ Q (.bl (decide (x = V.non))) H) v .non H (.bl (decide (v = .non))) := fun H1 _ Q q => ⟨rfl, q H1 (Ex.refl _)⟩
theorem rv_isNot {H : Hp} {a b : Bool} : RV (fun x y H Q => ∃ a b, x = V.bl a ∧ y = V.bl b ∧ Q (.bl (!decide (a = b))) H) (.bl a) (.bl b) H (.bl (!decide (a = b))) := fun H1 _ Q q => ⟨a, b, rfl, rfl, q H1 (Ex.refl _)⟩
theorem sp_truth {H : Hp} {a b : Bool} : SpV spTruth [.bl a, .bl b] H (.bl (decide (a = b))) := fun H1 _ Q q E => ⟨a, b, rfl, fun H2 e2 => q H2 e2⟩
section
variable {P : Program} {w : World} {K : PySem.W.Frag} {mg : Str → Option Value} {base : Heap}
theorem ok_law {f cL PT C DE CN CP fI fC fBe fPi fDs fDr fTy fMv fLf fFo fTr fId fNp fNn : Addr} {fd fdI fdC fdBe fdPi fdDs fdDr fdTy fdMv fdLf fdFo fdTr fdId fdNp fdNn : FuncData}
    (F : Fun K "law" "law" s_law f fd) (hcode : fd.code = .ref cL) (TB : TabB base mg cL PT) (B : DrB mg) (L : LwB mg) (T : NtF K mg C fI)
    (xN : PySem.W.exmOne K (.ref CN) (.ref DE) = some true) (cN : ExcC K CN) (gN : mg "BadNet" = some (.ref CN)) (xP : PySem.W.exmOne K (.ref CP) (.ref DE) = some true) (cP : ExcC K CP) (gP : mg "BadPlaces" = some (.ref CP)) (gD : mg "DrawError" = some (.ref DE))
    (FC : Fun K "_law_caught" "_law_caught" s_law_caught fC fdC) (mgC : mg "_law_caught" = some (.ref fC))
    (gI : FnOk P w K mg base CX0 4 fI fdI ["self", "many", "ties"] (spNetI K C)) (bI : Binds K fdI ["self", "many", "ties"] [])
    (Be : CalX P w K mg base CX0 1 "_law_begun" ["script"] (spBegun K) fBe fdBe) (Pi : CalX P w K mg base CX0 3 "_law_pick" ["state", "several"] spPick fPi fdPi) (Ds : CalX P w K mg base CX0 4 "_law_st_drawing" ["state", "most", "reach"] (spDrawing K) fDs fdDs)
    (Dr : CalX P w K mg base CX0 2 "_law_draw" ["state", "size_here"] spDraw fDr fdDr) (Ty : CalX P w K mg base CX0 4 "_law_nt_ties" ["state", "many", "most"] (spTies K) fTy fdTy) (Mv : CalX P w K mg base CX0 4 "_law_k36_moved" ["state", "told_here"] (spMoved K) fMv fdMv)
    (Lf : CalX P w K mg base CX0 4 "_law_st_fault" ["many", "ties", "places_here"] (spLFault K) fLf fdLf) (Fo : CalX P w K mg base (L2.CX P w) 6 "fault_of" ["net", "places"] (spFaultOf K C CN CP) fFo fdFo) (kFo : KBinds K fdFo ["net", "places"] ["places", "net"] g2 g2)
    (Tr : CalX P w K mg base CX0 1 "_law_is_truth" ["found", "due"] spTruth fTr fdTr) (Id : CalX P w K mg base (L2.CX P w) 5 "is_drawing" ["net", "value"] (spIsDr K C CN) fId fdId) (kId : KBinds K fdId ["net", "value"] ["value", "net"] g2 g2)
    (Npl : CalX P w K mg base CX0 4 "_law_st_no_places" ["state", "many"] (spNoPl K) fNp fdNp) (Nnt : CalX P w K mg base CX0 4 "_law_nt_no_net" ["state"] (spNoNet K C) fNn fdNn) :
    FnOkG P w K mg base CX0 9 f fd ["script"] (spLaw K PT) := by
  refine okG (sp := spLaw K PT) (N := nLw) (let ⟨oc, od, kV, doc, pm, an, cdv, ct, osl, e, l, c⟩ := F.ex; ⟨oc, od, .none, kV, doc, pm, an, cdv, ct, osl, e, l, c⟩) scLw (fun vs H Q E h => ?_) (fun cdv hcd A outer s H vs Q E hgd hr h => ?_)
  · obtain ⟨a, ns, rfl, _⟩ := h
    rfl
  · obtain ⟨a, ns, rfl, hS, hlen, hPT, k⟩ := h
    have hcL : cdv = .ref cL := hcd.symm.trans hcode
    let X : Cx := (cxOf CX0 P w K mg base nLw "law" (defScope s_law) f cdv A outer s H E).nox
    have hrX : Room 8 X.A := hr
    have hgX : X.A.guards = some [] := hgd
    have hu := hrX.units
    let TT : List (Addr × Str) := [(PT, X.env.qual ++ "<lambda>")]
    have hmT : (PT, X.env.qual ++ "<lambda>") ∈ TT := List.mem_singleton_self _
    have huT : ∀ p ∈ TT, p.1 = PT → p.2 = X.env.qual ++ "<lambda>" := fun p hp _ => by rw [List.mem_singleton.mp hp]
    have hT0 : Tabs TT H := fun p hp => by
      rw [List.mem_singleton.mp hp]
      exact TabS.nil hPT
    obtain ⟨ocC, odC, kVC, docC, pmC, anC, cdvC, ctC, oslC, eC, lkC, hcdC⟩ := FC.ex
    subst eC
    have bC : Binds K (PySem.W.fnOf "_law_caught" "_law_caught" (defArgs s_law_caught) (defBody s_law_caught) (defScope s_law_caught) .none kVC docC pmC anC cdvC ctC) ["work"] [] := FC.binds (ps := ["work"]) fun _ _ _ _ _ _ us hl => match us, hl with | [_], _ => rfl
    have lam : ∀ {params : Arguments} {body : Expr} {scope : Scope} {t : XK → TE} {p lpos pos : Pos}, lamSB (defScope s_law) scope = true → defaultsOf params X.env = ([], []) →
        (∀ (q : Str) (cl : List (Str × Addr)) (pm cv ctv : Value), bindArgs (PySem.W.kla_fn "<lambda>" q params body scope cl pm cv ctv) ⟨[], []⟩ = pure []) →
        (∀ (A : Around) (outer : List Env) (s : Shared) (H : Hp) (E : XK) (f c' : Addr), Room 6 (A.deeper (lamEnv X scope s.heap.objs.size f c')) → PE (lamCx X A outer s H E scope f c') body (t E)) →
        PE X (.Call (.Name "_law_caught" p) [.Lambda params body scope lpos] [] pos) (tLam TT (TKeep K DE) t) := fun LS hd hb hbody =>
      pe_lamcall (X := X) (by rfl) mgC FC.kp lkC hcdC bC scCa rfl (Or.inl rfl) (caught_gives (X := X) gD) TB hcL hmT huT hrX (show LamS (defScope s_law) _ from lamS_by LS) hd hb hbody
    refine ⟨_, PSs.nox (pss_cons (ps_set (i := 1) scLw.nd rfl (Or.inr rfl) (pe_call Be.ok (hrX.mono (by decide)) (by rfl) Be.g Be.kp Be.b .nil pass0 (pa_cons (pv 0) pa_nil)))
      (pss_cut (ps_for PassesOwn.never rfl (pi_range1 (by rfl) L.rng (pa_cons (pe_op op_add pe_int (pe_callB (call_min2 rfl) (by rfl) L.min (by decide +kernel) (pa_cons (pe_callB call_len_seq (by rfl) B.len PySem.boot_len (pa_cons (pv 0) pa_nil)) (pa_cons pe_int pa_nil)))) pa_nil)) (pg_name (i := 2) scLw.nd rfl (Or.inl rfl))
        (pss_cons (ps_set (i := 3) scLw.nd rfl (Or.inl rfl) (pe_call Pi.ok (hrX.mono (by decide)) (by rfl) Pi.g Pi.kp Pi.b .nil pass0 (pa_cons (pv 1) (pa_cons (pe_lst (pa_cons pe_int (pa_cons pe_int (pa_cons pe_int (pa_cons pe_int (pa_cons pe_int pa_nil)))))) pa_nil))))
        (pss_cons (ps_asg (pe_call Ds.ok (hrX.mono (by decide)) (by rfl) Ds.g Ds.kp Ds.b .nil pass0 (pa_cons (pv 1) (pa_cons (pe_ifExp (pt_cmpR op_gt (pv 3) pe_int (nomark _)) pe_int pe_int) (pa_cons (pv 3) pa_nil)))) (pg_tup rfl (pgs_cons (pg_name (i := 4) scLw.nd rfl (Or.inl rfl)) (pgs_cons (pg_name (i := 5) scLw.nd rfl (Or.inl rfl)) (pgs_cons (pg_name (i := 6) scLw.nd rfl (Or.inl rfl)) pgs_nil)))))
        (pss_cut (ps_if (pt_cmpR op_eq (pe_call Dr.ok (hrX.mono (by decide)) (by rfl) Dr.g Dr.kp Dr.b .nil pass0 (pa_cons (pv 1) (pa_cons pe_int pa_nil))) pe_int (nomark _)) (pss_one (ps_set (i := 5) scLw.nd rfl (Or.inl rfl) (pe_call Ty.ok (hrX.mono (by decide)) (by rfl) Ty.g Ty.kp Ty.b .nil pass0 (pa_cons (pv 1) (pa_cons (pv 4) (pa_cons pe_int pa_nil)))))) pss_nil)
        (pss_cons (ps_set (i := 7) scLw.nd rfl (Or.inr rfl) (pe_make T.mkr gI (hrX.mono (by decide)) (by rfl) T.g bI .nil pass0 (pa_cons (pv 4) (pa_cons (pv 5) pa_nil))))
        (pss_cut (ps_for PassesOwn.never rfl (pi_range1 (by rfl) L.rng (pa_cons pe_int pa_nil)) (pg_name (i := 8) scLw.nd rfl (Or.inl rfl))
          (pss_cut (ps_set (i := 9) scLw.nd rfl (Or.inl rfl) (pe_ifExp (pt_cmpR op_eq (pv 8) pe_int (nomark _)) (pv 6) (pe_call Mv.ok (hrX.mono (by decide)) (by rfl) Mv.g Mv.kp Mv.b .nil pass0 (pa_cons (pv 1) (pa_cons (pe_tup (pa_cons (pv 4) (pa_cons (pv 5) (pa_cons (pv 6) pa_nil)))) pa_nil)))))
          (pss_cons (ps_if (pt_cmpR op_gt (pe_callB (cr_max rfl) (by rfl) L.max (by decide +kernel) (pa_cons (pe_lc (own := [("place", 10)]) (g := gName 10) rfl scLw.nd (pi_tup (pv 9)) (blkOk_by (N := nLw) (sc := defScope s_law) (by decide +kernel))
              (fun _ _ _ _ _ => pg_name (i := 10) scLw.nd rfl (Or.inl rfl)) (fun _ _ _ _ _ => pts_nil) (fun _ _ _ _ _ => pe_callB (call_max2 rfl) (by rfl) L.max (by decide +kernel) (pa_cons (pe_callB call_abs (by rfl) B.abs (by decide +kernel) (pa_cons (pe_ix (r := rIxT K) ix_tup (pv 10) pe_int (fun _ _ => rfl)) pa_nil))
                (pa_cons (pe_callB call_abs (by rfl) B.abs (by decide +kernel) (pa_cons (pe_ix (r := rIxT K) ix_tup (pv 10) pe_int (fun _ _ => rfl)) pa_nil)) pa_nil)))) pa_nil)) (pe_op op_pow pe_int pe_int) (nomark _)) (pss_one ps_continue) pss_nil)
          (pss_cons (ps_set (i := 11) scLw.nd rfl (Or.inl rfl) (pe_call Lf.ok (hrX.mono (by decide)) (by rfl) Lf.g Lf.kp Lf.b .nil pass0 (pa_cons (pv 4) (pa_cons (pv 5) (pa_cons (pv 9) pa_nil)))))
          (pss_cons (ps_if (pt_cmpR op_ne (pe_callB (call_reprD hgX hu) (by rfl) L.rep (by decide +kernel) (pa_cons (pe_lst (pa_cons (pe_call (E := L2.E0) Fo.ok (hrX.mono (by decide)) (by rfl) Fo.g Fo.kp Fo.b .nil (passes_call LamX.takes0 fun _ _ _ _ h => h) (pa_cons (pv 7) (pa_cons (pv 9) pa_nil)))
                (pa_cons (pe_callK0 (E := L2.E0) Fo.ok (hrX.mono (by decide)) (by rfl) Fo.g Fo.kp kFo (passes_call LamX.takes0 fun _ _ _ _ h => h) (pk_cons (pv 9) (pk_cons (pv 7) pk_nil))) pa_nil))) pa_nil))
              (pe_callB (call_reprD hgX hu) (by rfl) L.rep (by decide +kernel) (pa_cons (pe_lst (pa_cons (pv 11) (pa_cons (pv 11) pa_nil))) pa_nil)) (nomark _)) (pss_one (ps_ret pe_bl)) pss_nil)
          (pss_one (ps_if (PW.pt (pw_or (pt_not (pt_val (pe_call Tr.ok (hrX.mono (by decide)) (by rfl) Tr.g Tr.kp Tr.b .nil pass0 (pa_cons (pe_call (E := L2.E0) Id.ok (hrX.mono (by decide)) (by rfl) Id.g Id.kp Id.b .nil (passes_call LamX.takes0 fun _ _ _ _ h => h) (pa_cons (pv 7) (pa_cons (pv 9) pa_nil)))
                (pa_cons (pe_cmpR op_isN (pv 11) pe_non (nomark _)) pa_nil)))))
              (pw_or1 (pt_not (pt_val (pe_call Tr.ok (hrX.mono (by decide)) (by rfl) Tr.g Tr.kp Tr.b .nil pass0 (pa_cons (pe_callK0 (E := L2.E0) Id.ok (hrX.mono (by decide)) (by rfl) Id.g Id.kp kId (passes_call LamX.takes0 fun _ _ _ _ h => h) (pk_cons (pv 9) (pk_cons (pv 7) pk_nil)))
                (pa_cons (pe_cmpR op_isN (pv 11) pe_non (nomark _)) pa_nil)))))))) (pss_one (ps_ret pe_bl)) pss_nil)))))))
        (pss_cons (ps_set (i := 12) scLw.nd rfl (Or.inr rfl) (pe_call Npl.ok (hrX.mono (by decide)) (by rfl) Npl.g Npl.kp Npl.b .nil pass0 (pa_cons (pv 1) (pa_cons (pv 4) pa_nil))))
        (pss_cons (ps_if (PW.pt (pw_or (pt_cmpR op_isnot_bl (pe_call (E := L2.E0) Id.ok (hrX.mono (by decide)) (by rfl) Id.g Id.kp Id.b .nil (passes_call LamX.takes0 fun _ _ _ _ h => h) (pa_cons (pv 7) (pa_cons (pv 12) pa_nil))) pe_bl (nomark _))
            (pw_or1 (pt_cmpR op_isnot_bl (pe_call (E := L2.E0) Id.ok (hrX.mono (by decide)) (by rfl) Id.g Id.kp Id.b .nil (passes_call LamX.takes0 fun _ _ _ _ h => h) (pa_cons (pv 7) (pa_cons (pe_callTy call_list_of (by rfl) L.list (by decide +kernel) (pa_cons (pv 6) pa_nil)) pa_nil))) pe_bl (nomark _))))) (pss_one (ps_ret pe_bl)) pss_nil)
        (pss_cut (ps_if (pt_not (pt_val (pe_callB call_isK (by rfl) L.isi boot_isi (pa_cons (lam (t := fun E => tCall (spFaultOf K C CN CP) [] E (tCons (tVar 7) (tCons (tVar 12) tNil))) (by decide +kernel) rfl (fun _ _ _ _ _ => rfl)
            (fun A outer s H E f c' hr' => pe_call (E := E) Fo.ok hr' (by rfl) Fo.g Fo.kp Fo.b .nil (passes_call (W := WxE E) (takes_of rfl rfl rfl rfl) fun _ _ _ _ h => h) (pa_cons (pe_var (i := 7) rfl (Or.inr (Or.inr (by rfl)))) (pa_cons (pe_var (i := 12) rfl (Or.inr (Or.inr (by rfl)))) pa_nil)))) (pa_cons (pe_glob (v := .ref CP) (by rfl) gP rfl) pa_nil))))) (pss_one (ps_ret pe_bl)) pss_nil)
        (pss_cut (ps_if (pt_not (pt_val (pe_callB call_isK (by rfl) L.isi boot_isi (pa_cons (lam (t := fun E => tCall (spFaultOf K C CN CP) [] E (tCons (tCall (spNoNet K C) [] L2.E0 (tCons (tVar 1) tNil)) (tCons (tVar 12) tNil))) (by decide +kernel) rfl (fun _ _ _ _ _ => rfl)
            (fun A outer s H E f c' hr' => pe_call (E := E) Fo.ok hr' (by rfl) Fo.g Fo.kp Fo.b .nil (passes_call (W := WxE E) (takes_of rfl rfl rfl rfl) fun _ _ _ _ h => h) (pa_cons (pe_call Nnt.ok (hr'.mono (by decide)) (by rfl) Nnt.g Nnt.kp Nnt.b .nil pass0 (pa_cons (pe_var (i := 1) rfl (Or.inr (Or.inr (by rfl)))) pa_nil)) (pa_cons (pe_var (i := 12) rfl (Or.inr (Or.inr (by rfl)))) pa_nil)))) (pa_cons (pe_glob (v := .ref CN) (by rfl) gN rfl) pa_nil))))) (pss_one (ps_ret pe_bl)) pss_nil)
        (pss_one (ps_if (pt_not (pt_val (pe_callB call_isK (by rfl) L.isi boot_isi (pa_cons (lam (t := fun E => tCall (spIsDr K C CN) [] E (tCons (tCall (spNoNet K C) [] L2.E0 (tCons (tVar 1) tNil)) (tCons (tVar 12) tNil))) (by decide +kernel) rfl (fun _ _ _ _ _ => rfl)
            (fun A outer s H E f c' hr' => pe_call (E := E) Id.ok (hr'.mono (by decide)) (by rfl) Id.g Id.kp Id.b .nil (passes_call (W := WxE E) (takes_of rfl rfl rfl rfl) fun _ _ _ _ h => h) (pa_cons (pe_call Nnt.ok (hr'.mono (by decide)) (by rfl) Nnt.g Nnt.kp Nnt.b .nil pass0 (pa_cons (pe_var (i := 1) rfl (Or.inr (Or.inr (by rfl)))) pa_nil)) (pa_cons (pe_var (i := 12) rfl (Or.inr (Or.inr (by rfl)))) pa_nil)))) (pa_cons (pe_glob (v := .ref CN) (by rfl) gN rfl) pa_nil))))) (pss_one (ps_ret pe_bl)) pss_nil))))))))))))
      (pss_one (ps_ret pe_bl)))), ?_⟩
    refine ⟨_, rfl, a, ns, rfl, hS, hlen, fun d g c H1 s0 hd hg hc st1 _ ht0 hcs0 e1 => ?_⟩
    refine ⟨fun σ H' => True, ?_, fun σ H' _ => k H'⟩
    have hS1 := ex_l e1 hS
    have hl3 : (ns.map V.int).length ≤ 63 := by rw [List.length_map]; exact hlen
    have p100 : (2 : Int) ^ 100 = 1267650600228229401496703205376 := by decide
    let W : Nat → L2.St → Hp → Prop := fun i σ' H' => ∃ (s : Src) (x2 x3 x4 x5 x6 x7 x8 x9 x10 x11 x12 : Option V), σ' = [some (.ref a), some (.ref d), x2, x3, x4, x5, x6, x7, x8, x9, x10, x11, x12] ∧
      StX H' d g c s ∧ s.cs.length ≤ 63 ∧ 0 ≤ s.turn ∧ s.turn ≤ (i : Int) * 2535301200456458802993406410752 ∧ Tabs TT H'
    refine s_forR1 (ea_cons (ev_op ev_c (ev_cb (ea_cons (ev_len (ev_var rfl) hS1) (ea_cons ev_c ea_nil)) (fun H1 _ Q q => ⟨_, _, rfl, q H1 (Ex.refl _)⟩)) rv_I0) ea_nil) ?_ W (fun H2 e2 => ⟨s0, none, none, none, none, none, none, none, none, none, none, none, rfl, st1.up e2, by rw [hcs0, List.length_map]; exact hlen, by omega, by omega, (hT0.ext e1).ext e2⟩) ?_ (fun _ _ _ => trivial)
    · split <;> omega
    · rintro i σ H2 hi ⟨s, x2, x3, x4, x5, x6, x7, x8, x9, x10, x11, x12, rfl, st2, hcl, t0, t1, T2⟩
      have hi10 : (i : Int) < 10 := by
        split at hi <;> omega
      -- reach
      refine ⟨_, rfl, by show 5 ≤ sizeLine; decide, fun l hl => ⟨d, g, c, l, s, [.int 1, .int 2, .int 3, .int 9, .int 500000], rfl, st2.up (Ex.new hl), t0, by omega, upd_same, fun z => ?_, by decide, by decide, fun H3 x st3 k3 hx => ?_⟩⟩
      · rw [z, st2.2.1] at hl
        cases hl
      obtain ⟨r, rfl, hr5⟩ : ∃ r : Int, x = .int r ∧ (r = 1 ∨ r = 2 ∨ r = 3 ∨ r = 9 ∨ r = 500000) := by
        have m1 := List.mem_of_getElem? hx
        simp only [List.mem_cons, List.not_mem_nil, or_false] at m1
        rcases m1 with rfl | rfl | rfl | rfl | rfl
        · exact ⟨_, rfl, .inl rfl⟩
        · exact ⟨_, rfl, .inr (.inl rfl)⟩
        · exact ⟨_, rfl, .inr (.inr (.inl rfl))⟩
        · exact ⟨_, rfl, .inr (.inr (.inr (.inl rfl)))⟩
        · exact ⟨_, rfl, .inr (.inr (.inr (.inr rfl)))⟩
      have T3 : Tabs TT H3 := tabs_kp (st2.up (Ex.new hl)) k3 (T2.ext (Ex.new hl))
      obtain ⟨n1, n2⟩ := next_turn s ([.int 1, .int 2, .int 3, .int 9, .int 500000] : List V).length
      have c3 : (s.next ([.int 1, .int 2, .int 3, .int 9, .int 500000] : List V).length).cs = s.cs := next_cs _ _
      generalize s.next ([.int 1, .int 2, .int 3, .int 9, .int 500000] : List V).length = s3 at st3 n1 n2 c3
      -- many, ties, places_here
      let most : Int := if 1 < r then 7 else 5
      have most7 : 1 ≤ most ∧ most ≤ 7 := by
        show 1 ≤ (if 1 < r then (7 : Int) else 5) ∧ (if 1 < r then (7 : Int) else 5) ≤ 7
        split <;> omega
      refine ⟨_, rfl, ev_if (v := .int most) (et_test (ev_op (ev_var rfl) ev_c rv_I0)) (fun h => ?_) (fun h => ?_) H3 (Ex.refl _) _ fun H4 e4 => ⟨_, rfl, d, g, c, s3, most, r, rfl, st3.up e4, by omega, by omega, by rw [c3]; exact hcl, most7.1, most7.2, reach_ok hr5, by omega, by omega, fun H5 s5 Tt ta pa txs xs m ks ps st5 c5 n3 n4 k5 hTt hta hks okn hpa hps hpl m1 m2 wi => ?_⟩⟩
      · rw [show most = 7 from if_pos (of_decide_eq_true h)]
        exact ev_c
      · rw [show most = 5 from if_neg (of_decide_eq_false h)]
        exact ev_c
      have T5 : Tabs TT H5 := tabs_kp (st3.up e4) k5 (T3.ext e4)
      refine ⟨Tt, _, rfl, SqT.of hTt, rfl, _, _, rfl, _, _, rfl, _, _, rfl, rfl, ?_⟩
      have wi5 : ∀ p ∈ ps, Within 500000 p := fun p hp => by
        obtain ⟨h1, h2, h3, h4⟩ := wi p hp
        exact ⟨by omega, by omega, by omega, by omega⟩
      -- if _law_draw(state, 3) == 0
      let Mid3 : L2.St → Hp → Prop := fun σ' H' => ∃ (s' : Src) (ta : Addr) (txs : List V) (ks : List (Int × Int)), σ' = [some (.ref a), some (.ref d), some (.int (i : Int)), some (.int r), some (.int (m : Int)), some (.ref ta), some (.ref pa), x7, x8, x9, x10, x11, x12] ∧
        StX H' d g c s' ∧ s'.cs = s.cs ∧ 0 ≤ s'.turn ∧ s'.turn ≤ s5.turn + 2001 ∧ Tabs TT H' ∧ H' ta = some (.tup txs) ∧ PrL H' txs ks ∧ OkNet (m : Int) ks ∧ H' pa = some (.tup xs) ∧ PrL H' xs ps
      have c5s : s5.cs = s.cs := c5.trans c3
      refine q_cut (M := Mid3) ?_ ?_
      · refine ⟨_, rfl, d, g, c, s5, 3, rfl, st5, by omega, by omega, by decide, by decide, fun H6 st6 k6 => ⟨rfl, _, rfl, ?_⟩⟩
        have T6 := tabs_kp st5 k6 T5
        obtain ⟨n5, n6⟩ := next_turn s5 3
        have c6 : (s5.next 3).cs = s5.cs := next_cs _ _
        generalize s5.next 3 = s6 at st6 n5 n6 c6
        refine iteB (fun _ => ?_) (fun _ => ?_)
        · refine ⟨_, rfl, _, rfl, d, g, c, s6, (m : Int), 8, rfl, st6, by omega, by omega, by omega, by omega, by decide, by decide, fun H7 s7 tb tys js st7 c7 n7 n8 k7 _ htb hjs okj _ => ?_⟩
          exact ⟨s7, tb, tys, js, rfl, st7, by rw [c7, c6, c5s], by omega, by omega, tabs_kp st6 k7 T6, htb, hjs, okj, k7.tup st6 (k6.tup st5 hpa), PrL.kp st6 k7 (PrL.kp st5 k6 hps)⟩
        · exact ⟨s6, ta, txs, ks, rfl, st6, by rw [c6, c5s], by omega, by omega, T6, k6.tup st5 hta, PrL.kp st5 k6 hks, okn, k6.tup st5 hpa, PrL.kp st5 k6 hps⟩
      rintro σ' H8 ⟨s8, ta, txs, ks, rfl, st8, c8, t8, t8', T8, hta, hks, okn, hpa, hps⟩
      -- net
      refine ⟨_, rfl, _, rfl, fun sN dx hsN hdx ne => ⟨sN, dx, ta, (m : Int), txs, ks, rfl, upd_same, ?_, ?_, okn, fun H9 hk9 hN9 => ⟨rfl, ?_⟩⟩⟩
      · exact SqT.of (((Ex.new hdx).trans (Ex.new ((upd_ne ne.symm).trans hsN))) _ _ hta)
      · exact hks.up ((Ex.new hdx).trans (Ex.new ((upd_ne ne.symm).trans hsN)))
      have e9 : Ex H8 H9 := fun b o hb => hk9 b o (ne_of_none hb hsN) (((Ex.new hdx).trans (Ex.new ((upd_ne ne.symm).trans hsN))) _ _ hb)
      have hNet : NetV K C H9 (.ref sN) (m : Int) ks := ⟨sN, dx, ta, txs, rfl, hN9, SqT.of (e9 _ _ hta), hks.up e9⟩
      -- for lap
      let Z : Nat → L2.St → Hp → Prop := fun j σ' H' => ∃ (s' : Src) (y8 y9 y10 y11 : Option V), σ' = [some (.ref a), some (.ref d), some (.int (i : Int)), some (.int r), some (.int (m : Int)), some (.ref ta), some (.ref pa), some (.ref sN), y8, y9, y10, y11, x12] ∧
        StX H' d g c s' ∧ s'.cs = s.cs ∧ 0 ≤ s'.turn ∧ s'.turn ≤ s8.turn + 10 * (j : Int) ∧ Tabs TT H' ∧ NetV K C H' (.ref sN) (m : Int) ks ∧ H' ta = some (.tup txs) ∧ PrL H' txs ks ∧ H' pa = some (.tup xs) ∧ PrL H' xs ps
      refine q_cut (M := Z 6) ?_ ?_
      · refine s_forR1 (n := 6) (ea_cons ev_c ea_nil) ⟨by decide, by decide⟩ Z (fun H10 e10 => ⟨s8, x8, x9, x10, x11, rfl, (st8.up e9).up e10, c8, t8, by omega, (T8.ext e9).ext e10, hNet.up e10, e10 _ _ (e9 _ _ hta), (hks.up e9).up e10, e10 _ _ (e9 _ _ hpa), (hps.up e9).up e10⟩) ?_ (fun _ _ h => h)
        rintro j σ' H10 hj ⟨s10, y8, y9, y10, y11, rfl, st10, c10, t10, t10', T10, hN10, hta10, hks10, hpa10, hps10⟩
        -- some
        let M9 : L2.St → Hp → Prop := fun σ' H' => ∃ (s' : Src) (b : Addr) (ys : List V) (qs : List Pt), σ' = [some (.ref a), some (.ref d), some (.int (i : Int)), some (.int r), some (.int (m : Int)), some (.ref ta), some (.ref pa), some (.ref sN), some (.int (j : Int)), some (.ref b), y10, y11, x12] ∧
          StX H' d g c s' ∧ s'.cs = s.cs ∧ 0 ≤ s'.turn ∧ s'.turn ≤ s10.turn + 10 ∧ Tabs TT H' ∧ NetV K C H' (.ref sN) (m : Int) ks ∧ H' ta = some (.tup txs) ∧ PrL H' txs ks ∧ H' pa = some (.tup xs) ∧ PrL H' xs ps ∧ SqT K H' b ys ∧ PrL H' ys qs ∧ qs.length = m ∧ ∀ p ∈ qs, Near p
        refine q_cut (M := M9) ?_ ?_
        · refine ⟨_, rfl, rfl, _, rfl, ?_⟩
          refine iteB (fun _ => ?_) (fun _ => ?_)
          · exact ⟨_, rfl, s10, pa, xs, ps, rfl, st10, c10, t10, by omega, T10, hN10, hta10, hks10, hpa10, hps10, SqT.of hpa10, hps10, hpl, fun p hp => by
              obtain ⟨h1, h2, h3, h4⟩ := wi5 p hp
              exact ⟨by omega, by omega, by omega, by omega⟩⟩
          · refine ⟨_, rfl, _, rfl, _, rfl, _, rfl, by show 3 ≤ sizeLine; decide, fun tl htl => ⟨d, g, c, tl, ta, pa, s10, txs, xs, m, ks, ps, rfl, st10.up (Ex.new htl), t10, by omega, upd_same, (Ex.new htl) _ _ hta10, hks10.up (Ex.new htl), okn, (Ex.new htl) _ _ hpa10, hps10.up (Ex.new htl), hpl, wi5, fun H11 s11 b ys qs st11 c11 n9 n10 k11 hb hq hql near => ?_⟩⟩
            have stU := st10.up (Ex.new (o := .tup [.int (m : Int), .ref ta, .ref pa]) htl)
            exact ⟨s11, b, ys, qs, rfl, st11, by rw [c11, c10], by omega, by omega, tabs_kp stU k11 (T10.ext (Ex.new htl)), (hN10.up (Ex.new htl)).kp stU k11, k11.tup stU ((Ex.new htl) _ _ hta10), PrL.kp stU k11 (hks10.up (Ex.new htl)), k11.tup stU ((Ex.new htl) _ _ hpa10), PrL.kp stU k11 (hps10.up (Ex.new htl)), hb, hq, hql, near⟩
        rintro σ' H11 ⟨s11, b, ys, qs, rfl, st11, c11, t11, t11', T11, hN11, hta11, hks11, hpa11, hps11, hb, hq, hql, near⟩
        have yl := hq.len
        -- max(..) > 10 ** 6
        refine q_when (b := false) (et_far (ns := qs.map farI) (M := 1000000) (el_is (ys := (qs.map farI).map V.int) (el_lcW (n := ys.length) (Y := YAt ys) (fun _ => true) (fun i => V.int (farI (qs.getD i (0, 0)))) (by omega) (w_tup (es_var rfl hb)) (fun i x H1 H2 hi e1 y => ?_)) ?_) (ev_op ev_c ev_c (rv_I ⟨by decide, by decide, by decide⟩)) (by rw [List.length_map]; omega) (fun y hy => ?_)) (fun z => by cases z) (fun _ H12 e12 => ?_)
        · obtain ⟨rfl, hy⟩ := y
          obtain ⟨q, hq2, hq3⟩ := hq.get i x hy
          refine ⟨Ex.refl _, _, fun R hR => hR, rfl, fun H3 _ Q q => q H3 (Ex.refl _), fun _ => ?_⟩
          rw [List.getD_eq_getElem?_getD, hq2]
          exact ev_max2 (ev_absI (ev_p0 (i := 10) rfl hq3)) (ev_absI (ev_p1 (i := 10) rfl hq3))
        · rw [given_all, yl, List.map_map]
          exact map_getD (fun p => V.int (farI p)) (0, 0) qs
        · obtain ⟨p, hp, rfl⟩ := List.mem_map.mp hy
          exact far_near (near p hp)
        -- due
        refine ⟨_, rfl, _, rfl, _, rfl, ta, b, m, txs, ks, ys, qs, rfl, SqT.of (e12 _ _ hta11), hks11.up e12, okn, ex_t e12 hb, hq.up e12, hql, fun p hp => (near p hp).sm, fun due H13 e13 o13 => ?_⟩
        rw [← fault_eq okn] at o13
        have e113 := e12.trans e13
        have good : GoodV K C (.ref sN) (.ref b) H13 m ks qs := ⟨hN11.up e113, okn, b, ys, rfl, ex_t e113 hb, hq.up e113, hql, near⟩
        have hsm : ∀ q, faultP m ks qs = some q → q.sm := fun q h => fault_sm okn h
        let fr := faultP m ks qs
        have fo : ∀ (σ' : L2.St) (H' : Hp), Ex H13 H' → σ'[7]? = some (some (.ref sN)) → σ'[9]? = some (some (.ref b)) → ∀ H1, Ex H' H1 → ∀ Q : VK, (∀ p x y H2, Ex H1 H2 → H2 p = some (.lst [x, y]) → FltO fr x H2 → FltO fr y H2 → Q (.ref p) H2) →
            tLst (tCons (tCall (spFaultOf K C CN CP) [] L2.E0 (tCons (tVar 7) (tCons (tVar 9) tNil))) (tCons (tCallK0 (spFaultOf K C CN CP) g2 L2.E0 (tCons (tVar 9) (tCons (tVar 7) tNil))) tNil)) σ' H1 Q := fun σ' H' e0 h7 h9 H1 e1 Q q =>
          ⟨_, h7, _, h9, _, _, rfl, .inr ⟨m, ks, qs, good.up (e0.trans e1), fun v1 H2 e2 o1 => ⟨_, h9, _, h7, _, _, rfl, .inr ⟨m, ks, qs, good.up ((e0.trans e1).trans e2), fun v2 H3 e3 o2 => ⟨by show 2 ≤ sizeLine; decide, fun p hp =>
            q p v1 v2 _ ((e2.trans e3).trans (Ex.new hp)) upd_same ((FltO.up e3 o1).up (Ex.new hp)) (o2.up (Ex.new hp))⟩⟩⟩⟩⟩
        have du : ∀ (σ' : L2.St) (H' : Hp), Ex H13 H' → σ'[11]? = some (some due) → ∀ H1, Ex H' H1 → ∀ Q : VK, (∀ p x y H2, Ex H1 H2 → H2 p = some (.lst [x, y]) → FltO fr x H2 → FltO fr y H2 → Q (.ref p) H2) →
            tLst (tCons (tVar 11) (tCons (tVar 11) tNil)) σ' H1 Q := fun σ' H' e0 h11 H1 e1 Q q =>
          ⟨_, h11, _, h11, by show 2 ≤ sizeLine; decide, fun p hp => q p due due _ (Ex.new hp) upd_same ((FltO.up (e0.trans e1) o13).up (Ex.new hp)) ((FltO.up (e0.trans e1) o13).up (Ex.new hp))⟩
        have isd : ∀ (σ' : L2.St) (H' : Hp), Ex H13 H' → σ'[7]? = some (some (.ref sN)) → σ'[9]? = some (some (.ref b)) → Ev (tCall (spIsDr K C CN) [] L2.E0 (tCons (tVar 7) (tCons (tVar 9) tNil))) σ' H' (.bl fr.isNone) := fun σ' H' e0 h7 h9 =>
          ev_call (ea_cons (ev_var h7) (ea_cons (ev_var h9) ea_nil)) fun H1 e1 Q q E => ⟨_, _, rfl, .inr (.inr ⟨m, ks, qs, good.up (e0.trans e1), fun H2 e2 => q H2 e2⟩)⟩
        have isk : ∀ (σ' : L2.St) (H' : Hp), Ex H13 H' → σ'[7]? = some (some (.ref sN)) → σ'[9]? = some (some (.ref b)) → Ev (tCallK0 (spIsDr K C CN) g2 L2.E0 (tCons (tVar 9) (tCons (tVar 7) tNil))) σ' H' (.bl fr.isNone) := fun σ' H' e0 h7 h9 =>
          ev_callK0 (ea_cons (ev_var h9) (ea_cons (ev_var h7) ea_nil)) fun H1 e1 Q q E => ⟨_, _, rfl, .inr (.inr ⟨m, ks, qs, good.up (e0.trans e1), fun H2 e2 => q H2 e2⟩)⟩
        have hn : decide (due = V.non) = fr.isNone := flt_none o13
        -- repr
        refine q_when (b := false) (et_is (et_test (ev_op (ev_repF hsm (fo _ _ (Ex.refl _) rfl rfl)) (ev_repF hsm (du _ _ (Ex.refl _) rfl)) (rv_ne rfl))) (by simp)) (fun z => by cases z) (fun _ H14 e14 => ?_)
        refine s_when (b := false) (et_is (et_or (et_not (et_B (ev_call (ea_cons (isd _ _ e14 rfl rfl) (ea_cons (ev_op (ev_var rfl) ev_c rv_isN) ea_nil)) sp_truth))) (fun _ => et_not (et_B (ev_call (ea_cons (isk _ _ e14 rfl rfl) (ea_cons (ev_op (ev_var rfl) ev_c rv_isN) ea_nil)) sp_truth)))) (by rw [hn]; simp)) (fun z => by cases z) (fun _ H15 e15 => ?_)
        have e1115 := (e113.trans e14).trans e15
        exact ⟨s11, _, _, _, _, rfl, st11.up e1115, c11, t11, by omega, T11.ext e1115, hN11.up e1115, e1115 _ _ hta11, hks11.up e1115, e1115 _ _ hpa11, hps11.up e1115⟩
      rintro σ' H10 ⟨s10, y8, y9, y10, y11, rfl, st10, c10, t10, t10', T10, hN10, hta10, hks10, hpa10, hps10⟩
      -- wrong
      refine ⟨_, rfl, _, rfl, d, g, c, s10, m, rfl, m1, by omega, st10, t10, by omega, fun H11 s11 wr o st11 c11 n9 n10 k11 hwr hbad => ?_⟩
      have T11 := tabs_kp st10 k11 T10
      have hN11 := hN10.kp st10 k11
      have hpa11 := k11.tup st10 hpa10
      have cs11 : s11.cs = s.cs := c11.trans c10
      refine q_when (b := false) (et_is (et_or (et_test (ev_op (z := .bl (!decide (false = false))) (ev_call (z := .bl false) (ea_cons (ev_var rfl) (ea_cons (ev_var rfl) ea_nil)) (fun H1 e1 Q q E => ⟨_, _, rfl, .inr (.inl ⟨(m : Int), ks, o, hN11.up e1, (hwr.up e1).ar, hbad, fun H2 e2 => q H2 e2⟩)⟩)) ev_c rv_isNot))
        (fun _ => et_test (ev_op (x := .bl false) (z := .bl (!decide (false = false))) (fun H1 e1 Q q => ⟨_, rfl, _, rfl, pa, xs, rfl, .inr (SqT.of (e1 _ _ hpa11)), fun l hl => ⟨_, _, rfl, .inr (.inl ⟨(m : Int), ks, none, hN11.up (e1.trans (Ex.new hl)), .no fun H2 e2 => ⟨_, .base (.lst (e2 _ _ upd_same)), rfl⟩, rfl, fun H2 e2 => q H2 ((Ex.new hl).trans e2)⟩)⟩⟩) ev_c rv_isNot))) rfl) (fun z => by cases z) (fun _ H12 e12 => ?_)
      let St : L2.St := [some (.ref a), some (.ref d), some (.int (i : Int)), some (.int r), some (.int (m : Int)), some (.ref ta), some (.ref pa), some (.ref sN), y8, y9, y10, y11, some wr]
      let Y : Int → L2.St → Hp → Prop := fun j σ' H' => σ' = St ∧ ∃ s' : Src, StX H' d g c s' ∧ s'.cs = s.cs ∧ 0 ≤ s'.turn ∧ s'.turn ≤ s11.turn + j ∧ Tabs TT H' ∧ NetV K C H' (.ref sN) (m : Int) ks ∧ ArC K d g H' wr o
      refine q_cut (M := Y 0) (s_caught (R := Ex) (T11.ext e12) xP cP (fun H1 e1 T1 E Q hE => ⟨_, rfl, _, rfl, _, _, rfl, .inl (.inr ⟨(m : Int), ks, o, NetV.xn e1 (hN11.up e12), (ArC.xn e1 (hwr.up e12)).ar, hbad, fun H2 e2 => hE H2 e2⟩)⟩)
        (fun H1 H2 H3 e1 T1 r e3 => ⟨rfl, s11, (StX.xn e1 (st11.up e12)).up (r.trans e3), cs11, by omega, by omega, T1.ext (r.trans e3), (NetV.xn e1 (hN11.up e12)).up (r.trans e3), (ArC.xn e1 (hwr.up e12)).up (r.trans e3)⟩)) ?_
      rintro σ' H13 ⟨rfl, s13, st13, c13, t13, t13', T13, hN13, hwr13⟩
      let R2 : Hp → Hp → Prop := fun _ H' => ∃ s' : Src, StX H' d g c s' ∧ s'.cs = s.cs ∧ 0 ≤ s'.turn ∧ s'.turn ≤ s13.turn + 1 ∧ Tabs TT H' ∧ NetV K C H' (.ref sN) (m : Int) ks ∧ ArC K d g H' wr o
      refine q_cut (M := Y 1) (s_caught (R := R2) T13 xN cN (fun H1 e1 T1 E Q hE => ⟨_, rfl, d, g, c, s13, rfl, StX.xn e1 st13, t13, by omega, fun H2 s' x st2 cs2 lo hi kp2 no => ⟨_, rfl, x, _, rfl, .inl (.inl ⟨no, fun H3 e3 => hE H3 ⟨s', st2.up e3, by rw [cs2, c13], by omega, by omega, (tabs_kp (StX.xn e1 st13) kp2 T1).ext e3, ((NetV.xn e1 hN13).kp (StX.xn e1 st13) kp2).up e3, ((ArC.xn e1 hwr13).kp (StX.xn e1 st13) kp2).up e3⟩⟩)⟩⟩)
        (fun H1 H2 H3 e1 T1 ⟨s', q1, q2, q3, q4, q5, q6, q7⟩ e3 => ⟨rfl, s', q1.up e3, q2, q3, by omega, q5.ext e3, q6.up e3, q7.up e3⟩)) ?_
      rintro σ' H14 ⟨rfl, s14, st14, c14, t14, t14', T14, hN14, hwr14⟩
      let R3 : Hp → Hp → Prop := fun _ H' => ∃ s' : Src, StX H' d g c s' ∧ s'.cs = s.cs ∧ 0 ≤ s'.turn ∧ s'.turn ≤ s14.turn + 1 ∧ Tabs TT H'
      exact s_caught (R := R3) T14 xN cN (fun H1 e1 T1 E Q hE => ⟨_, rfl, d, g, c, s14, rfl, StX.xn e1 st14, t14, by omega, fun H2 s' x st2 cs2 lo hi kp2 no => ⟨_, rfl, x, _, rfl, .inl ⟨no, fun H3 e3 => hE H3 ⟨s', st2.up e3, by rw [cs2, c14], by omega, by omega, (tabs_kp (StX.xn e1 st14) kp2 T1).ext e3⟩⟩⟩⟩)
        (fun H1 H2 H3 e1 T1 ⟨s', q1, q2, q3, q4, q5⟩ e3 => ⟨s', _, _, _, _, _, _, _, _, _, _, _, rfl, q1.up e3, by rw [q2]; exact hcl, q3, by omega, q5.ext e3⟩)
end
end My
/-! the head: facts by names, one run (printed by genhd.py) -/
namespace My
open PySem PySem.Spec PyProof.Rows L2 He
def d_is_whole : DefD := ⟨("is_whole", none), "is_whole", "is_whole", defArgs s_is_whole, defBody s_is_whole, defScope s_is_whole, [], []⟩
def d_is_number : DefD := ⟨("is_number", none), "is_number", "is_number", defArgs s_is_number, defBody s_is_number, defScope s_is_number, [], []⟩
def d_is_rising : DefD := ⟨("is_rising", none), "is_rising", "is_rising", defArgs s_is_rising, defBody s_is_rising, defScope s_is_rising, [], []⟩
def d_is_pair_of : DefD := ⟨("is_pair_of", none), "is_pair_of", "is_pair_of", defArgs s_is_pair_of, defBody s_is_pair_of, defScope s_is_pair_of, [], []⟩
def d_need_net : DefD := ⟨("need_net", none), "need_net", "need_net", defArgs s_need_net, defBody s_need_net, defScope s_need_net, [], []⟩
def d_are_places : DefD := ⟨("are_places", none), "are_places", "are_places", defArgs s_are_places, defBody s_are_places, defScope s_are_places, [], []⟩
def d_is_place : DefD := ⟨("is_place", none), "is_place", "is_place", defArgs s_is_place, defBody s_is_place, defScope s_is_place, [], []⟩
def d_need_places : DefD := ⟨("need_places", none), "need_places", "need_places", defArgs s_need_places, defBody s_need_places, defScope s_need_places, [], []⟩
def d_turn_of : DefD := ⟨("turn_of", none), "turn_of", "turn_of", defArgs s_turn_of, defBody s_turn_of, defScope s_turn_of, [], []⟩
def d_is_between : DefD := ⟨("is_between", none), "is_between", "is_between", defArgs s_is_between, defBody s_is_between, defScope s_is_between, [], []⟩
def d_sign : DefD := ⟨("sign", none), "sign", "sign", defArgs s_sign, defBody s_sign, defScope s_sign, [], []⟩
def d_do_cross : DefD := ⟨("do_cross", none), "do_cross", "do_cross", defArgs s_do_cross, defBody s_do_cross, defScope s_do_cross, [], []⟩
def d_fault_at : DefD := ⟨("fault_at", none), "fault_at", "fault_at", defArgs s_fault_at, defBody s_fault_at, defScope s_fault_at, [], []⟩
def d_fault_of : DefD := ⟨("fault_of", none), "fault_of", "fault_of", defArgs s_fault_of, defBody s_fault_of, defScope s_fault_of, [], []⟩
def d_is_drawing : DefD := ⟨("is_drawing", none), "is_drawing", "is_drawing", defArgs s_is_drawing, defBody s_is_drawing, defScope s_is_drawing, [], []⟩
def d_law_begun : DefD := ⟨("_law_begun", none), "_law_begun", "_law_begun", defArgs s_law_begun, defBody s_law_begun, defScope s_law_begun, [], []⟩
def d_law_blended : DefD := ⟨("_law_blended", none), "_law_blended", "_law_blended", defArgs s_law_blended, defBody s_law_blended, defScope s_law_blended, [], []⟩
def d_law_draw : DefD := ⟨("_law_draw", none), "_law_draw", "_law_draw", defArgs s_law_draw, defBody s_law_draw, defScope s_law_draw, [], []⟩
def d_law_pick : DefD := ⟨("_law_pick", none), "_law_pick", "_law_pick", defArgs s_law_pick, defBody s_law_pick, defScope s_law_pick, [], []⟩
def d_law_mixed : DefD := ⟨("_law_mixed", none), "_law_mixed", "_law_mixed", defArgs s_law_mixed, defBody s_law_mixed, defScope s_law_mixed, [], []⟩
def d_law_caught : DefD := ⟨("_law_caught", none), "_law_caught", "_law_caught", defArgs s_law_caught, defBody s_law_caught, defScope s_law_caught, [], []⟩
def d_law_is_truth : DefD := ⟨("_law_is_truth", none), "_law_is_truth", "_law_is_truth", defArgs s_law_is_truth, defBody s_law_is_truth, defScope s_law_is_truth, [], []⟩
def d_law_nt_ties : DefD := ⟨("_law_nt_ties", none), "_law_nt_ties", "_law_nt_ties", defArgs s_law_nt_ties, defBody s_law_nt_ties, defScope s_law_nt_ties, [], []⟩
def d_law_nt_no_net : DefD := ⟨("_law_nt_no_net", none), "_law_nt_no_net", "_law_nt_no_net", defArgs s_law_nt_no_net, defBody s_law_nt_no_net, defScope s_law_nt_no_net, [], []⟩
def d_law_st_side : DefD := ⟨("_law_st_side", none), "_law_st_side", "_law_st_side", defArgs s_law_st_side, defBody s_law_st_side, defScope s_law_st_side, [], []⟩
def d_law_st_on : DefD := ⟨("_law_st_on", none), "_law_st_on", "_law_st_on", defArgs s_law_st_on, defBody s_law_st_on, defScope s_law_st_on, [], []⟩
def d_law_st_meet : DefD := ⟨("_law_st_meet", none), "_law_st_meet", "_law_st_meet", defArgs s_law_st_meet, defBody s_law_st_meet, defScope s_law_st_meet, [], []⟩
def d_law_st_fault : DefD := ⟨("_law_st_fault", none), "_law_st_fault", "_law_st_fault", defArgs s_law_st_fault, defBody s_law_st_fault, defScope s_law_st_fault, [], []⟩
def d_law_st_drawing : DefD := ⟨("_law_st_drawing", none), "_law_st_drawing", "_law_st_drawing", defArgs s_law_st_drawing, defBody s_law_st_drawing, defScope s_law_st_drawing, [], []⟩
def d_law_st_no_places : DefD := ⟨("_law_st_no_places", none), "_law_st_no_places", "_law_st_no_places", defArgs s_law_st_no_places, defBody s_law_st_no_places, defScope s_law_st_no_places, [], []⟩
def d_law_k36_moved : DefD := ⟨("_law_k36_moved", none), "_law_k36_moved", "_law_k36_moved", defArgs s_law_k36_moved, defBody s_law_k36_moved, defScope s_law_k36_moved, [], []⟩
def d_law : DefD := ⟨("law", none), "law", "law", defArgs s_law, defBody s_law, defScope s_law, [], []⟩
def d_Net_init : DefD := ⟨("Net", some "__init__"), "__init__", "Net.__init__", defArgs s_Net_init, defBody s_Net_init, defScope s_Net_init, [], []⟩
def d_Net_eq : DefD := ⟨("Net", some "__eq__"), "__eq__", "Net.__eq__", defArgs s_Net_eq, defBody s_Net_eq, defScope s_Net_eq, [], []⟩
def fnD0 : List DefD := [d_is_whole, d_is_number, d_is_rising, d_is_pair_of, d_need_net, d_are_places, d_is_place, d_need_places, d_turn_of, d_is_between, d_sign, d_do_cross, d_fault_at, d_fault_of, d_is_drawing, d_law_begun, d_law_blended, d_law_draw, d_law_pick, d_law_mixed]
def fnD1 : List DefD := [d_law_caught, d_law_is_truth, d_law_nt_ties, d_law_nt_no_net, d_law_st_side, d_law_st_on, d_law_st_meet, d_law_st_fault, d_law_st_drawing, d_law_st_no_places, d_law_k36_moved, d_law, d_Net_init, d_Net_eq]
def fnD : List DefD := fnD0 ++ fnD1
def faL0 : List Fa := [.glo "is_whole", .glo "is_number", .glo "is_rising", .glo "is_pair_of", .glo "need_net", .glo "are_places", .glo "is_place", .glo "need_places", .glo "turn_of", .glo "is_between", .glo "sign", .glo "do_cross", .glo "fault_at", .glo "fault_of", .glo "is_drawing", .glo "_law_begun", .glo "_law_blended", .glo "_law_draw", .glo "_law_pick", .glo "_law_mixed"]
def faL1 : List Fa := [.glo "_law_caught", .glo "_law_is_truth", .glo "_law_nt_ties", .glo "_law_nt_no_net", .glo "_law_st_side", .glo "_law_st_on", .glo "_law_st_meet", .glo "_law_st_fault", .glo "_law_st_drawing", .glo "_law_st_no_places", .glo "_law_k36_moved", .glo "law", .glo "DrawError", .glo "BadMany", .glo "BadNet", .glo "BadPlaces", .glo "BadTies", .glo "Net", .free "ValueError", .free "abs"]
def faL2 : List Fa := [.free "all", .free "bool", .free "enumerate", .free "int", .free "isinstance", .free "len", .free "list", .free "max", .free "min", .free "range", .free "repr", .free "sorted", .free "tuple", .free "zip", .exc "DrawError", .exc "BadMany", .exc "BadNet", .exc "BadPlaces", .exc "BadTies", .int "MOST_POINTS" 24]
def faL3 : List Fa := [.int "MOST_PLACE" 1000000, .exm "DrawError" "DrawError" true, .exm "BadMany" "DrawError" true, .exm "BadNet" "DrawError" true, .exm "BadPlaces" "DrawError" true, .exm "BadTies" "DrawError" true, .cls "Net", .mkr "Net", .noat "Net" "many", .noat "Net" "ties"]
def faL : List Fa := faL0 ++ faL1 ++ faL2 ++ faL3
def errN0 : List Str := ["DrawError", "BadMany", "BadNet", "BadPlaces", "BadTies"]
def errN : List Str := errN0
def clsN0 : List Str := ["Net"]
def clsN : List Str := clsN0
def tabF0 : List Defn := [("law", none)]
def tabF : List Defn := tabF0
/-- what isinstance asks of the error class x -/
def excB (K : PySem.W.Frag) (x : Str) : Bool :=
  eqO (PySem.W.findIn K (.ref (ga K x)) "__getattribute__") (some (some (.builtin "BaseException.__getattribute__"))) &&
  (eqO (PySem.W.findIn K (.ref (ga K x)) "__getattr__") (some none) &&
  (eqO (PySem.W.findIn K (.ref (ga K x)) "__class__") (some (some (.builtin "object.__class__"))) &&
  (PySem.W.hasDictIn K (ga K x) && decide (PySem.W.mroIn K (ga K x) (.type "object") = some true))))
/-- .. of the class x -/
def insB (K : PySem.W.Frag) (x : Str) : Bool :=
  eqO (PySem.W.findIn K (.ref (ga K x)) "__class__") (some (some (.builtin "object.__class__"))) && decide (PySem.W.mroIn K (ga K x) (.type "object") = some true)
def kitN : List String := ["NoneType", "int", "bool", "tuple", "list", "dict", "str"]
/-- what isinstance of built-in values answers for the class x -/
def nobB (K : PySem.W.Frag) (x : Str) : Bool := kitN.all fun t => PySem.W.kitOne K (.type t) (.ref (ga K x)) == some false
def exA (K : PySem.W.Frag) : Bool :=
  eqO (PySem.W.specialIn K (.builtin "object.__class__") "__get__") (some (some (.builtin "getset_descriptor.__get__"))) &&
  (decide (PySem.W.takesIn K (.builtin "object.__class__") = some true) && (errN.all (excB K) && (clsN.all (insB K) && clsN.all (nobB K))))
abbrev R : PySem.W.OpenRow := PySem.W.OpenLaw.row PySem.Challenge.rw_flatdrawn_k36_drawings_judged
abbrev hk : PySem.W.Hook := hookX 5 faL fnD [] tabF exA
def ob (s : PySem.W.SharedT) : AlX := obsX 5 faL fnD [] tabF exA (HandSHeadRun.getT s)
theorem ob_eq (s : PySem.W.SharedT) : ob s = hk.obs s.abs := obsX_eq (HandSHeadRun.getT_eq s)
def looseN0 : List Str := ["is_whole", "is_number", "is_rising", "DrawError", "BadMany", "BadNet", "BadPlaces", "BadTies", "MOST_POINTS", "is_pair_of", "Net", "need_net", "MOST_PLACE", "are_places", "is_place", "need_places", "turn_of", "is_between", "sign", "do_cross"]
def looseN1 : List Str := ["fault_at", "fault_of", "is_drawing", "_law_begun", "_law_blended", "_law_draw", "_law_pick", "_law_mixed", "_law_caught", "_law_is_truth", "_law_nt_ties", "_law_nt_no_net", "_law_st_side", "_law_st_on", "_law_st_meet", "_law_st_fault", "_law_st_drawing", "_law_st_no_places", "_law_k36_moved"]
def looseN : List Str := looseN0 ++ looseN1
theorem run (w : World) : HandSHeadRun.RunEq R (PySem.W.view R.prog [44]) hk ob 15000 looseN w := by
  intro os
  kernel_rfl
section
variable {w : World} {h : Heap} {K : PySem.W.Frag} {mg : Str → Option Value}
theorem fun_of0 {x qual : Str} {st : Stmt} {f : Addr} {fd : FuncData} {kws : List (Str × V)} (F : FunD K x qual (defArgs st) (defBody st) (defScope st) [] kws f fd) : Fun K x qual st f fd := by
  obtain ⟨⟨oc, od, dV, kV, doc, pm, an, cdv, ct, osl, e, l, c, hd, _⟩, kp⟩ := F
  rcases hd with ⟨_, h⟩ | ⟨h, _⟩
  · subst h
    exact ⟨⟨oc, od, kV, doc, pm, an, cdv, ct, osl, e, l, c⟩, kp⟩
  · exact absurd rfl h
abbrev SaysL (w : World) (h : Heap) (K : PySem.W.Frag) : Prop := SaysX faL fnD [] tabF exA w h K
theorem hd_is_whole (c : SaysL w h K) (X : K.In h) (G : h.Ns mainGlobals mg) : (∃ fd, Fun K "is_whole" "is_whole" s_is_whole (ga K "is_whole") fd) ∧ mg "is_whole" = some (.ref (ga K "is_whole")) :=
  ⟨let ⟨fd, F⟩ := c.t.d.def_ 0 (d := d_is_whole) rfl; ⟨fd, fun_of0 (x := "is_whole") (qual := "is_whole") (st := s_is_whole) (kws := []) F⟩, glo_ok X G (c.t.d.fact 0 (f := .glo "is_whole") rfl)⟩
theorem hd_is_number (c : SaysL w h K) (X : K.In h) (G : h.Ns mainGlobals mg) : (∃ fd, Fun K "is_number" "is_number" s_is_number (ga K "is_number") fd) ∧ mg "is_number" = some (.ref (ga K "is_number")) :=
  ⟨let ⟨fd, F⟩ := c.t.d.def_ 1 (d := d_is_number) rfl; ⟨fd, fun_of0 (x := "is_number") (qual := "is_number") (st := s_is_number) (kws := []) F⟩, glo_ok X G (c.t.d.fact 1 (f := .glo "is_number") rfl)⟩
theorem hd_is_rising (c : SaysL w h K) (X : K.In h) (G : h.Ns mainGlobals mg) : (∃ fd, Fun K "is_rising" "is_rising" s_is_rising (ga K "is_rising") fd) ∧ mg "is_rising" = some (.ref (ga K "is_rising")) :=
  ⟨let ⟨fd, F⟩ := c.t.d.def_ 2 (d := d_is_rising) rfl; ⟨fd, fun_of0 (x := "is_rising") (qual := "is_rising") (st := s_is_rising) (kws := []) F⟩, glo_ok X G (c.t.d.fact 2 (f := .glo "is_rising") rfl)⟩
theorem hd_is_pair_of (c : SaysL w h K) (X : K.In h) (G : h.Ns mainGlobals mg) : (∃ fd, Fun K "is_pair_of" "is_pair_of" s_is_pair_of (ga K "is_pair_of") fd) ∧ mg "is_pair_of" = some (.ref (ga K "is_pair_of")) :=
  ⟨let ⟨fd, F⟩ := c.t.d.def_ 3 (d := d_is_pair_of) rfl; ⟨fd, fun_of0 (x := "is_pair_of") (qual := "is_pair_of") (st := s_is_pair_of) (kws := []) F⟩, glo_ok X G (c.t.d.fact 3 (f := .glo "is_pair_of") rfl)⟩
theorem hd_need_net (c : SaysL w h K) (X : K.In h) (G : h.Ns mainGlobals mg) : (∃ fd, Fun K "need_net" "need_net" s_need_net (ga K "need_net") fd) ∧ mg "need_net" = some (.ref (ga K "need_net")) :=
  ⟨let ⟨fd, F⟩ := c.t.d.def_ 4 (d := d_need_net) rfl; ⟨fd, fun_of0 (x := "need_net") (qual := "need_net") (st := s_need_net) (kws := []) F⟩, glo_ok X G (c.t.d.fact 4 (f := .glo "need_net") rfl)⟩
theorem hd_are_places (c : SaysL w h K) (X : K.In h) (G : h.Ns mainGlobals mg) : (∃ fd, Fun K "are_places" "are_places" s_are_places (ga K "are_places") fd) ∧ mg "are_places" = some (.ref (ga K "are_places")) :=
  ⟨let ⟨fd, F⟩ := c.t.d.def_ 5 (d := d_are_places) rfl; ⟨fd, fun_of0 (x := "are_places") (qual := "are_places") (st := s_are_places) (kws := []) F⟩, glo_ok X G (c.t.d.fact 5 (f := .glo "are_places") rfl)⟩
theorem hd_is_place (c : SaysL w h K) (X : K.In h) (G : h.Ns mainGlobals mg) : (∃ fd, Fun K "is_place" "is_place" s_is_place (ga K "is_place") fd) ∧ mg "is_place" = some (.ref (ga K "is_place")) :=
  ⟨let ⟨fd, F⟩ := c.t.d.def_ 6 (d := d_is_place) rfl; ⟨fd, fun_of0 (x := "is_place") (qual := "is_place") (st := s_is_place) (kws := []) F⟩, glo_ok X G (c.t.d.fact 6 (f := .glo "is_place") rfl)⟩
theorem hd_need_places (c : SaysL w h K) (X : K.In h) (G : h.Ns mainGlobals mg) : (∃ fd, Fun K "need_places" "need_places" s_need_places (ga K "need_places") fd) ∧ mg "need_places" = some (.ref (ga K "need_places")) :=
  ⟨let ⟨fd, F⟩ := c.t.d.def_ 7 (d := d_need_places) rfl; ⟨fd, fun_of0 (x := "need_places") (qual := "need_places") (st := s_need_places) (kws := []) F⟩, glo_ok X G (c.t.d.fact 7 (f := .glo "need_places") rfl)⟩
theorem hd_turn_of (c : SaysL w h K) (X : K.In h) (G : h.Ns mainGlobals mg) : (∃ fd, Fun K "turn_of" "turn_of" s_turn_of (ga K "turn_of") fd) ∧ mg "turn_of" = some (.ref (ga K "turn_of")) :=
  ⟨let ⟨fd, F⟩ := c.t.d.def_ 8 (d := d_turn_of) rfl; ⟨fd, fun_of0 (x := "turn_of") (qual := "turn_of") (st := s_turn_of) (kws := []) F⟩, glo_ok X G (c.t.d.fact 8 (f := .glo "turn_of") rfl)⟩
theorem hd_is_between (c : SaysL w h K) (X : K.In h) (G : h.Ns mainGlobals mg) : (∃ fd, Fun K "is_between" "is_between" s_is_between (ga K "is_between") fd) ∧ mg "is_between" = some (.ref (ga K "is_between")) :=
  ⟨let ⟨fd, F⟩ := c.t.d.def_ 9 (d := d_is_between) rfl; ⟨fd, fun_of0 (x := "is_between") (qual := "is_between") (st := s_is_between) (kws := []) F⟩, glo_ok X G (c.t.d.fact 9 (f := .glo "is_between") rfl)⟩
theorem hd_sign (c : SaysL w h K) (X : K.In h) (G : h.Ns mainGlobals mg) : (∃ fd, Fun K "sign" "sign" s_sign (ga K "sign") fd) ∧ mg "sign" = some (.ref (ga K "sign")) :=
  ⟨let ⟨fd, F⟩ := c.t.d.def_ 10 (d := d_sign) rfl; ⟨fd, fun_of0 (x := "sign") (qual := "sign") (st := s_sign) (kws := []) F⟩, glo_ok X G (c.t.d.fact 10 (f := .glo "sign") rfl)⟩
theorem hd_do_cross (c : SaysL w h K) (X : K.In h) (G : h.Ns mainGlobals mg) : (∃ fd, Fun K "do_cross" "do_cross" s_do_cross (ga K "do_cross") fd) ∧ mg "do_cross" = some (.ref (ga K "do_cross")) :=
  ⟨let ⟨fd, F⟩ := c.t.d.def_ 11 (d := d_do_cross) rfl; ⟨fd, fun_of0 (x := "do_cross") (qual := "do_cross") (st := s_do_cross) (kws := []) F⟩, glo_ok X G (c.t.d.fact 11 (f := .glo "do_cross") rfl)⟩
theorem hd_fault_at (c : SaysL w h K) (X : K.In h) (G : h.Ns mainGlobals mg) : (∃ fd, Fun K "fault_at" "fault_at" s_fault_at (ga K "fault_at") fd) ∧ mg "fault_at" = some (.ref (ga K "fault_at")) :=
  ⟨let ⟨fd, F⟩ := c.t.d.def_ 12 (d := d_fault_at) rfl; ⟨fd, fun_of0 (x := "fault_at") (qual := "fault_at") (st := s_fault_at) (kws := []) F⟩, glo_ok X G (c.t.d.fact 12 (f := .glo "fault_at") rfl)⟩
theorem hd_fault_of (c : SaysL w h K) (X : K.In h) (G : h.Ns mainGlobals mg) : (∃ fd, Fun K "fault_of" "fault_of" s_fault_of (ga K "fault_of") fd) ∧ mg "fault_of" = some (.ref (ga K "fault_of")) :=
  ⟨let ⟨fd, F⟩ := c.t.d.def_ 13 (d := d_fault_of) rfl; ⟨fd, fun_of0 (x := "fault_of") (qual := "fault_of") (st := s_fault_of) (kws := []) F⟩, glo_ok X G (c.t.d.fact 13 (f := .glo "fault_of") rfl)⟩
theorem hd_is_drawing (c : SaysL w h K) (X : K.In h) (G : h.Ns mainGlobals mg) : (∃ fd, Fun K "is_drawing" "is_drawing" s_is_drawing (ga K "is_drawing") fd) ∧ mg "is_drawing" = some (.ref (ga K "is_drawing")) :=
  ⟨let ⟨fd, F⟩ := c.t.d.def_ 14 (d := d_is_drawing) rfl; ⟨fd, fun_of0 (x := "is_drawing") (qual := "is_drawing") (st := s_is_drawing) (kws := []) F⟩, glo_ok X G (c.t.d.fact 14 (f := .glo "is_drawing") rfl)⟩
theorem hd_law_begun (c : SaysL w h K) (X : K.In h) (G : h.Ns mainGlobals mg) : (∃ fd, Fun K "_law_begun" "_law_begun" s_law_begun (ga K "_law_begun") fd) ∧ mg "_law_begun" = some (.ref (ga K "_law_begun")) :=
  ⟨let ⟨fd, F⟩ := c.t.d.def_ 15 (d := d_law_begun) rfl; ⟨fd, fun_of0 (x := "_law_begun") (qual := "_law_begun") (st := s_law_begun) (kws := []) F⟩, glo_ok X G (c.t.d.fact 15 (f := .glo "_law_begun") rfl)⟩
theorem hd_law_blended (c : SaysL w h K) (X : K.In h) (G : h.Ns mainGlobals mg) : (∃ fd, Fun K "_law_blended" "_law_blended" s_law_blended (ga K "_law_blended") fd) ∧ mg "_law_blended" = some (.ref (ga K "_law_blended")) :=
  ⟨let ⟨fd, F⟩ := c.t.d.def_ 16 (d := d_law_blended) rfl; ⟨fd, fun_of0 (x := "_law_blended") (qual := "_law_blended") (st := s_law_blended) (kws := []) F⟩, glo_ok X G (c.t.d.fact 16 (f := .glo "_law_blended") rfl)⟩
theorem hd_law_draw (c : SaysL w h K) (X : K.In h) (G : h.Ns mainGlobals mg) : (∃ fd, Fun K "_law_draw" "_law_draw" s_law_draw (ga K "_law_draw") fd) ∧ mg "_law_draw" = some (.ref (ga K "_law_draw")) :=
  ⟨let ⟨fd, F⟩ := c.t.d.def_ 17 (d := d_law_draw) rfl; ⟨fd, fun_of0 (x := "_law_draw") (qual := "_law_draw") (st := s_law_draw) (kws := []) F⟩, glo_ok X G (c.t.d.fact 17 (f := .glo "_law_draw") rfl)⟩
theorem hd_law_pick (c : SaysL w h K) (X : K.In h) (G : h.Ns mainGlobals mg) : (∃ fd, Fun K "_law_pick" "_law_pick" s_law_pick (ga K "_law_pick") fd) ∧ mg "_law_pick" = some (.ref (ga K "_law_pick")) :=
  ⟨let ⟨fd, F⟩ := c.t.d.def_ 18 (d := d_law_pick) rfl; ⟨fd, fun_of0 (x := "_law_pick") (qual := "_law_pick") (st := s_law_pick) (kws := []) F⟩, glo_ok X G (c.t.d.fact 18 (f := .glo "_law_pick") rfl)⟩
theorem hd_law_mixed (c : SaysL w h K) (X : K.In h) (G : h.Ns mainGlobals mg) : (∃ fd, Fun K "_law_mixed" "_law_mixed" s_law_mixed (ga K "_law_mixed") fd) ∧ mg "_law_mixed" = some (.ref (ga K "_law_mixed")) :=
  ⟨let ⟨fd, F⟩ := c.t.d.def_ 19 (d := d_law_mixed) rfl; ⟨fd, fun_of0 (x := "_law_mixed") (qual := "_law_mixed") (st := s_law_mixed) (kws := []) F⟩, glo_ok X G (c.t.d.fact 19 (f := .glo "_law_mixed") rfl)⟩
theorem hd_law_caught (c : SaysL w h K) (X : K.In h) (G : h.Ns mainGlobals mg) : (∃ fd, Fun K "_law_caught" "_law_caught" s_law_caught (ga K "_law_caught") fd) ∧ mg "_law_caught" = some (.ref (ga K "_law_caught")) :=
  ⟨let ⟨fd, F⟩ := c.t.d.def_ 20 (d := d_law_caught) rfl; ⟨fd, fun_of0 (x := "_law_caught") (qual := "_law_caught") (st := s_law_caught) (kws := []) F⟩, glo_ok X G (c.t.d.fact 20 (f := .glo "_law_caught") rfl)⟩
theorem hd_law_is_truth (c : SaysL w h K) (X : K.In h) (G : h.Ns mainGlobals mg) : (∃ fd, Fun K "_law_is_truth" "_law_is_truth" s_law_is_truth (ga K "_law_is_truth") fd) ∧ mg "_law_is_truth" = some (.ref (ga K "_law_is_truth")) :=
  ⟨let ⟨fd, F⟩ := c.t.d.def_ 21 (d := d_law_is_truth) rfl; ⟨fd, fun_of0 (x := "_law_is_truth") (qual := "_law_is_truth") (st := s_law_is_truth) (kws := []) F⟩, glo_ok X G (c.t.d.fact 21 (f := .glo "_law_is_truth") rfl)⟩
theorem hd_law_nt_ties (c : SaysL w h K) (X : K.In h) (G : h.Ns mainGlobals mg) : (∃ fd, Fun K "_law_nt_ties" "_law_nt_ties" s_law_nt_ties (ga K "_law_nt_ties") fd) ∧ mg "_law_nt_ties" = some (.ref (ga K "_law_nt_ties")) :=
  ⟨let ⟨fd, F⟩ := c.t.d.def_ 22 (d := d_law_nt_ties) rfl; ⟨fd, fun_of0 (x := "_law_nt_ties") (qual := "_law_nt_ties") (st := s_law_nt_ties) (kws := []) F⟩, glo_ok X G (c.t.d.fact 22 (f := .glo "_law_nt_ties") rfl)⟩
theorem hd_law_nt_no_net (c : SaysL w h K) (X : K.In h) (G : h.Ns mainGlobals mg) : (∃ fd, Fun K "_law_nt_no_net" "_law_nt_no_net" s_law_nt_no_net (ga K "_law_nt_no_net") fd) ∧ mg "_law_nt_no_net" = some (.ref (ga K "_law_nt_no_net")) :=
  ⟨let ⟨fd, F⟩ := c.t.d.def_ 23 (d := d_law_nt_no_net) rfl; ⟨fd, fun_of0 (x := "_law_nt_no_net") (qual := "_law_nt_no_net") (st := s_law_nt_no_net) (kws := []) F⟩, glo_ok X G (c.t.d.fact 23 (f := .glo "_law_nt_no_net") rfl)⟩
theorem hd_law_st_side (c : SaysL w h K) (X : K.In h) (G : h.Ns mainGlobals mg) : (∃ fd, Fun K "_law_st_side" "_law_st_side" s_law_st_side (ga K "_law_st_side") fd) ∧ mg "_law_st_side" = some (.ref (ga K "_law_st_side")) :=
  ⟨let ⟨fd, F⟩ := c.t.d.def_ 24 (d := d_law_st_side) rfl; ⟨fd, fun_of0 (x := "_law_st_side") (qual := "_law_st_side") (st := s_law_st_side) (kws := []) F⟩, glo_ok X G (c.t.d.fact 24 (f := .glo "_law_st_side") rfl)⟩
theorem hd_law_st_on (c : SaysL w h K) (X : K.In h) (G : h.Ns mainGlobals mg) : (∃ fd, Fun K "_law_st_on" "_law_st_on" s_law_st_on (ga K "_law_st_on") fd) ∧ mg "_law_st_on" = some (.ref (ga K "_law_st_on")) :=
  ⟨let ⟨fd, F⟩ := c.t.d.def_ 25 (d := d_law_st_on) rfl; ⟨fd, fun_of0 (x := "_law_st_on") (qual := "_law_st_on") (st := s_law_st_on) (kws := []) F⟩, glo_ok X G (c.t.d.fact 25 (f := .glo "_law_st_on") rfl)⟩
theorem hd_law_st_meet (c : SaysL w h K) (X : K.In h) (G : h.Ns mainGlobals mg) : (∃ fd, Fun K "_law_st_meet" "_law_st_meet" s_law_st_meet (ga K "_law_st_meet") fd) ∧ mg "_law_st_meet" = some (.ref (ga K "_law_st_meet")) :=
  ⟨let ⟨fd, F⟩ := c.t.d.def_ 26 (d := d_law_st_meet) rfl; ⟨fd, fun_of0 (x := "_law_st_meet") (qual := "_law_st_meet") (st := s_law_st_meet) (kws := []) F⟩, glo_ok X G (c.t.d.fact 26 (f := .glo "_law_st_meet") rfl)⟩
theorem hd_law_st_fault (c : SaysL w h K) (X : K.In h) (G : h.Ns mainGlobals mg) : (∃ fd, Fun K "_law_st_fault" "_law_st_fault" s_law_st_fault (ga K "_law_st_fault") fd) ∧ mg "_law_st_fault" = some (.ref (ga K "_law_st_fault")) :=
  ⟨let ⟨fd, F⟩ := c.t.d.def_ 27 (d := d_law_st_fault) rfl; ⟨fd, fun_of0 (x := "_law_st_fault") (qual := "_law_st_fault") (st := s_law_st_fault) (kws := []) F⟩, glo_ok X G (c.t.d.fact 27 (f := .glo "_law_st_fault") rfl)⟩
theorem hd_law_st_drawing (c : SaysL w h K) (X : K.In h) (G : h.Ns mainGlobals mg) : (∃ fd, Fun K "_law_st_drawing" "_law_st_drawing" s_law_st_drawing (ga K "_law_st_drawing") fd) ∧ mg "_law_st_drawing" = some (.ref (ga K "_law_st_drawing")) :=
  ⟨let ⟨fd, F⟩ := c.t.d.def_ 28 (d := d_law_st_drawing) rfl; ⟨fd, fun_of0 (x := "_law_st_drawing") (qual := "_law_st_drawing") (st := s_law_st_drawing) (kws := []) F⟩, glo_ok X G (c.t.d.fact 28 (f := .glo "_law_st_drawing") rfl)⟩
theorem hd_law_st_no_places (c : SaysL w h K) (X : K.In h) (G : h.Ns mainGlobals mg) : (∃ fd, Fun K "_law_st_no_places" "_law_st_no_places" s_law_st_no_places (ga K "_law_st_no_places") fd) ∧ mg "_law_st_no_places" = some (.ref (ga K "_law_st_no_places")) :=
  ⟨let ⟨fd, F⟩ := c.t.d.def_ 29 (d := d_law_st_no_places) rfl; ⟨fd, fun_of0 (x := "_law_st_no_places") (qual := "_law_st_no_places") (st := s_law_st_no_places) (kws := []) F⟩, glo_ok X G (c.t.d.fact 29 (f := .glo "_law_st_no_places") rfl)⟩
theorem hd_law_k36_moved (c : SaysL w h K) (X : K.In h) (G : h.Ns mainGlobals mg) : (∃ fd, Fun K "_law_k36_moved" "_law_k36_moved" s_law_k36_moved (ga K "_law_k36_moved") fd) ∧ mg "_law_k36_moved" = some (.ref (ga K "_law_k36_moved")) :=
  ⟨let ⟨fd, F⟩ := c.t.d.def_ 30 (d := d_law_k36_moved) rfl; ⟨fd, fun_of0 (x := "_law_k36_moved") (qual := "_law_k36_moved") (st := s_law_k36_moved) (kws := []) F⟩, glo_ok X G (c.t.d.fact 30 (f := .glo "_law_k36_moved") rfl)⟩
theorem hd_law (c : SaysL w h K) (X : K.In h) (G : h.Ns mainGlobals mg) : (∃ fd, Fun K "law" "law" s_law (ga K "law") fd) ∧ mg "law" = some (.ref (ga K "law")) :=
  ⟨let ⟨fd, F⟩ := c.t.d.def_ 31 (d := d_law) rfl; ⟨fd, fun_of0 (x := "law") (qual := "law") (st := s_law) (kws := []) F⟩, glo_ok X G (c.t.d.fact 31 (f := .glo "law") rfl)⟩
theorem hd_Net_init (c : SaysL w h K) : ∃ fd, Fun K "__init__" "Net.__init__" s_Net_init (ma K (ga K "Net") "__init__") fd :=
  let ⟨fd, F⟩ := c.t.d.def_ 32 (d := d_Net_init) rfl; ⟨fd, fun_of0 (x := "__init__") (qual := "Net.__init__") (st := s_Net_init) (kws := []) F⟩
theorem hd_Net_eq (c : SaysL w h K) : ∃ fd, Fun K "__eq__" "Net.__eq__" s_Net_eq (ma K (ga K "Net") "__eq__") fd :=
  let ⟨fd, F⟩ := c.t.d.def_ 33 (d := d_Net_eq) rfl; ⟨fd, fun_of0 (x := "__eq__") (qual := "Net.__eq__") (st := s_Net_eq) (kws := []) F⟩
theorem fr_ValueError (c : SaysL w h K) (X : K.In h) (G : h.Ns mainGlobals mg) : mg "ValueError" = none := free_ok X G (c.t.d.fact 38 (f := .free "ValueError") rfl)
theorem fr_abs (c : SaysL w h K) (X : K.In h) (G : h.Ns mainGlobals mg) : mg "abs" = none := free_ok X G (c.t.d.fact 39 (f := .free "abs") rfl)
theorem fr_all (c : SaysL w h K) (X : K.In h) (G : h.Ns mainGlobals mg) : mg "all" = none := free_ok X G (c.t.d.fact 40 (f := .free "all") rfl)
theorem fr_bool (c : SaysL w h K) (X : K.In h) (G : h.Ns mainGlobals mg) : mg "bool" = none := free_ok X G (c.t.d.fact 41 (f := .free "bool") rfl)
theorem fr_enumerate (c : SaysL w h K) (X : K.In h) (G : h.Ns mainGlobals mg) : mg "enumerate" = none := free_ok X G (c.t.d.fact 42 (f := .free "enumerate") rfl)
theorem fr_int (c : SaysL w h K) (X : K.In h) (G : h.Ns mainGlobals mg) : mg "int" = none := free_ok X G (c.t.d.fact 43 (f := .free "int") rfl)
theorem fr_isinstance (c : SaysL w h K) (X : K.In h) (G : h.Ns mainGlobals mg) : mg "isinstance" = none := free_ok X G (c.t.d.fact 44 (f := .free "isinstance") rfl)
theorem fr_len (c : SaysL w h K) (X : K.In h) (G : h.Ns mainGlobals mg) : mg "len" = none := free_ok X G (c.t.d.fact 45 (f := .free "len") rfl)
theorem fr_list (c : SaysL w h K) (X : K.In h) (G : h.Ns mainGlobals mg) : mg "list" = none := free_ok X G (c.t.d.fact 46 (f := .free "list") rfl)
theorem fr_max (c : SaysL w h K) (X : K.In h) (G : h.Ns mainGlobals mg) : mg "max" = none := free_ok X G (c.t.d.fact 47 (f := .free "max") rfl)
theorem fr_min (c : SaysL w h K) (X : K.In h) (G : h.Ns mainGlobals mg) : mg "min" = none := free_ok X G (c.t.d.fact 48 (f := .free "min") rfl)
theorem fr_range (c : SaysL w h K) (X : K.In h) (G : h.Ns mainGlobals mg) : mg "range" = none := free_ok X G (c.t.d.fact 49 (f := .free "range") rfl)
theorem fr_repr (c : SaysL w h K) (X : K.In h) (G : h.Ns mainGlobals mg) : mg "repr" = none := free_ok X G (c.t.d.fact 50 (f := .free "repr") rfl)
theorem fr_sorted (c : SaysL w h K) (X : K.In h) (G : h.Ns mainGlobals mg) : mg "sorted" = none := free_ok X G (c.t.d.fact 51 (f := .free "sorted") rfl)
theorem fr_tuple (c : SaysL w h K) (X : K.In h) (G : h.Ns mainGlobals mg) : mg "tuple" = none := free_ok X G (c.t.d.fact 52 (f := .free "tuple") rfl)
theorem fr_zip (c : SaysL w h K) (X : K.In h) (G : h.Ns mainGlobals mg) : mg "zip" = none := free_ok X G (c.t.d.fact 53 (f := .free "zip") rfl)
theorem ct_MOST_POINTS (c : SaysL w h K) (X : K.In h) (G : h.Ns mainGlobals mg) : ∃ t, mg "MOST_POINTS" = some (.int (24) t) := int_ok X G (c.t.d.fact 59 (f := .int "MOST_POINTS" (24)) rfl)
theorem ct_MOST_PLACE (c : SaysL w h K) (X : K.In h) (G : h.Ns mainGlobals mg) : ∃ t, mg "MOST_PLACE" = some (.int (1000000) t) := int_ok X G (c.t.d.fact 60 (f := .int "MOST_PLACE" (1000000)) rfl)
theorem er_DrawError (c : SaysL w h K) (X : K.In h) (G : h.Ns mainGlobals mg) : mg "DrawError" = some (.ref (ga K "DrawError")) ∧ (PySem.W.excIn K (ga K "DrawError") veBase "ValueError.__new__" = true ∧ PySem.W.keepIn K (.ref (ga K "DrawError")) = true ∧ PySem.W.subIn K (.ref (ga K "DrawError")) (.type "BaseException") = some true ∧ PySem.W.typeIn K (.ref (ga K "DrawError")) = some (.type "type")) ∧ PySem.W.exmOne K (.ref (ga K "DrawError")) (.ref (ga K "DrawError")) = some true :=
  ⟨glo_ok X G (c.t.d.fact 32 (f := .glo "DrawError") rfl), exc_ok (c.t.d.fact 54 (f := .exc "DrawError") rfl), exm_ok (c.t.d.fact 61 (f := .exm "DrawError" "DrawError" true) rfl)⟩
theorem er_BadMany (c : SaysL w h K) (X : K.In h) (G : h.Ns mainGlobals mg) : mg "BadMany" = some (.ref (ga K "BadMany")) ∧ (PySem.W.excIn K (ga K "BadMany") veBase "ValueError.__new__" = true ∧ PySem.W.keepIn K (.ref (ga K "BadMany")) = true ∧ PySem.W.subIn K (.ref (ga K "BadMany")) (.type "BaseException") = some true ∧ PySem.W.typeIn K (.ref (ga K "BadMany")) = some (.type "type")) ∧ PySem.W.exmOne K (.ref (ga K "BadMany")) (.ref (ga K "DrawError")) = some true :=
  ⟨glo_ok X G (c.t.d.fact 33 (f := .glo "BadMany") rfl), exc_ok (c.t.d.fact 55 (f := .exc "BadMany") rfl), exm_ok (c.t.d.fact 62 (f := .exm "BadMany" "DrawError" true) rfl)⟩
theorem er_BadNet (c : SaysL w h K) (X : K.In h) (G : h.Ns mainGlobals mg) : mg "BadNet" = some (.ref (ga K "BadNet")) ∧ (PySem.W.excIn K (ga K "BadNet") veBase "ValueError.__new__" = true ∧ PySem.W.keepIn K (.ref (ga K "BadNet")) = true ∧ PySem.W.subIn K (.ref (ga K "BadNet")) (.type "BaseException") = some true ∧ PySem.W.typeIn K (.ref (ga K "BadNet")) = some (.type "type")) ∧ PySem.W.exmOne K (.ref (ga K "BadNet")) (.ref (ga K "DrawError")) = some true :=
  ⟨glo_ok X G (c.t.d.fact 34 (f := .glo "BadNet") rfl), exc_ok (c.t.d.fact 56 (f := .exc "BadNet") rfl), exm_ok (c.t.d.fact 63 (f := .exm "BadNet" "DrawError" true) rfl)⟩
theorem er_BadPlaces (c : SaysL w h K) (X : K.In h) (G : h.Ns mainGlobals mg) : mg "BadPlaces" = some (.ref (ga K "BadPlaces")) ∧ (PySem.W.excIn K (ga K "BadPlaces") veBase "ValueError.__new__" = true ∧ PySem.W.keepIn K (.ref (ga K "BadPlaces")) = true ∧ PySem.W.subIn K (.ref (ga K "BadPlaces")) (.type "BaseException") = some true ∧ PySem.W.typeIn K (.ref (ga K "BadPlaces")) = some (.type "type")) ∧ PySem.W.exmOne K (.ref (ga K "BadPlaces")) (.ref (ga K "DrawError")) = some true :=
  ⟨glo_ok X G (c.t.d.fact 35 (f := .glo "BadPlaces") rfl), exc_ok (c.t.d.fact 57 (f := .exc "BadPlaces") rfl), exm_ok (c.t.d.fact 64 (f := .exm "BadPlaces" "DrawError" true) rfl)⟩
theorem er_BadTies (c : SaysL w h K) (X : K.In h) (G : h.Ns mainGlobals mg) : mg "BadTies" = some (.ref (ga K "BadTies")) ∧ (PySem.W.excIn K (ga K "BadTies") veBase "ValueError.__new__" = true ∧ PySem.W.keepIn K (.ref (ga K "BadTies")) = true ∧ PySem.W.subIn K (.ref (ga K "BadTies")) (.type "BaseException") = some true ∧ PySem.W.typeIn K (.ref (ga K "BadTies")) = some (.type "type")) ∧ PySem.W.exmOne K (.ref (ga K "BadTies")) (.ref (ga K "DrawError")) = some true :=
  ⟨glo_ok X G (c.t.d.fact 36 (f := .glo "BadTies") rfl), exc_ok (c.t.d.fact 58 (f := .exc "BadTies") rfl), exm_ok (c.t.d.fact 65 (f := .exm "BadTies" "DrawError" true) rfl)⟩
theorem cl_Net (c : SaysL w h K) (X : K.In h) (G : h.Ns mainGlobals mg) : mg "Net" = some (.ref (ga K "Net")) ∧ Cls K (ga K "Net") := ⟨glo_ok X G (c.t.d.fact 37 (f := .glo "Net") rfl), cls_ok (c.t.d.fact 66 (f := .cls "Net") rfl)⟩
theorem mk_Net (c : SaysL w h K) : Mk K (ga K "Net") (ma K (ga K "Net") "__init__") := mkr_ok (c.t.d.fact 67 (f := .mkr "Net") rfl)
theorem na_Net_many (c : SaysL w h K) : NoAttr K (ga K "Net") "many" := noat_ok (c.t.d.fact 68 (f := .noat "Net" "many") rfl)
theorem na_Net_ties (c : SaysL w h K) : NoAttr K (ga K "Net") "ties" := noat_ok (c.t.d.fact 69 (f := .noat "Net" "ties") rfl)
theorem ex_A (c : SaysL w h K) : PySem.W.specialIn K (.builtin "object.__class__") "__get__" = some (some (.builtin "getset_descriptor.__get__")) ∧ PySem.W.takesIn K (.builtin "object.__class__") = some true ∧ (∀ x ∈ errN, excB K x = true) ∧ (∀ x ∈ clsN, insB K x = true) ∧ ∀ x ∈ clsN, nobB K x = true := by
  have e : exA K = true := c.more
  unfold exA at e
  obtain ⟨e1, e⟩ := ba e
  obtain ⟨e2, e⟩ := ba e
  obtain ⟨e3, e⟩ := ba e
  obtain ⟨e4, e5⟩ := ba e
  exact ⟨eqO_ok e1, of_decide_eq_true e2, fun x hx => List.all_eq_true.mp e3 x hx, fun x hx => List.all_eq_true.mp e4 x hx, fun x hx => List.all_eq_true.mp e5 x hx⟩
theorem exc_C (c : SaysL w h K) {x : Str} (hx : x ∈ errN) (sb : PySem.W.subIn K (.ref (ga K x)) (.type "BaseException") = some true) : ExcC K (ga K x) := by
  obtain ⟨e1, e2, e3, _, _⟩ := ex_A c
  have e := e3 x hx
  unfold excB at e
  obtain ⟨a1, e⟩ := ba e
  obtain ⟨a2, e⟩ := ba e
  obtain ⟨a3, e⟩ := ba e
  obtain ⟨a4, a5⟩ := ba e
  exact ⟨eqO_ok a1, eqO_ok a2, sb, a4, eqO_ok a3, e1, e2, of_decide_eq_true a5⟩
theorem ins_I (c : SaysL w h K) {x : Str} (hx : x ∈ clsN) : PySem.W.findIn K (.ref (ga K x)) "__class__" = some (some (.builtin "object.__class__")) ∧ PySem.W.mroIn K (ga K x) (.type "object") = some true := by
  obtain ⟨_, _, _, e4, _⟩ := ex_A c
  have e := e4 x hx
  unfold insB at e
  obtain ⟨a1, a2⟩ := ba e
  exact ⟨eqO_ok a1, of_decide_eq_true a2⟩
end
end My
namespace My
open PySem PySem.Spec PyProof.Rows L2 He LamX
theorem facts36 {P : Program} {w : World} {K : PySem.W.Frag} {h : Heap} {mg : Str → Option Value} {f : Addr} (X : K.In h) (G : h.Ns mainGlobals mg) (hfa : mg ("law" : Str) = some (.ref f)) (c : SaysL w h K) :
    ∃ fd : FuncData, (∀ (s : Shared) (v : Value), BindsTo s fd ⟨[v], []⟩ [("script", v)]) ∧ ∀ base : Heap, K.In base → base.Ns mainGlobals mg → (∀ p ∈ [cT K ("law", none)], TabB base mg p.1 p.2) → FnOkG P w K mg base CX0 9 f fd ["script"] (spLaw K (cT K ("law", none)).2) := by
  obtain ⟨⟨fd1, F1⟩, g1⟩ := hd_is_whole c X G
  obtain ⟨⟨fd2, F2⟩, g2'⟩ := hd_is_number c X G
  obtain ⟨⟨fd3, F3⟩, g3⟩ := hd_is_rising c X G
  obtain ⟨⟨fd4, F4⟩, g4⟩ := hd_is_pair_of c X G
  obtain ⟨⟨fd5, F5⟩, g5⟩ := hd_need_net c X G
  obtain ⟨⟨fd6, F6⟩, g6⟩ := hd_are_places c X G
  obtain ⟨⟨fd7, F7⟩, g7⟩ := hd_is_place c X G
  obtain ⟨⟨fd8, F8⟩, g8⟩ := hd_need_places c X G
  obtain ⟨⟨fd9, F9⟩, g9⟩ := hd_turn_of c X G
  obtain ⟨⟨fd10, F10⟩, g10⟩ := hd_is_between c X G
  obtain ⟨⟨fd11, F11⟩, g11⟩ := hd_sign c X G
  obtain ⟨⟨fd12, F12⟩, g12⟩ := hd_do_cross c X G
  obtain ⟨⟨fd13, F13⟩, g13⟩ := hd_fault_at c X G
  obtain ⟨⟨fd14, F14⟩, g14⟩ := hd_fault_of c X G
  obtain ⟨⟨fd15, F15⟩, g15⟩ := hd_is_drawing c X G
  obtain ⟨⟨fd16, F16⟩, g16⟩ := hd_law_begun c X G
  obtain ⟨⟨fd17, F17⟩, g17⟩ := hd_law_blended c X G
  obtain ⟨⟨fd18, F18⟩, g18⟩ := hd_law_draw c X G
  obtain ⟨⟨fd19, F19⟩, g19⟩ := hd_law_pick c X G
  obtain ⟨⟨fd20, F20⟩, g20⟩ := hd_law_mixed c X G
  obtain ⟨⟨fd21, F21⟩, g21⟩ := hd_law_caught c X G
  obtain ⟨⟨fd22, F22⟩, g22⟩ := hd_law_is_truth c X G
  obtain ⟨⟨fd23, F23⟩, g23⟩ := hd_law_nt_ties c X G
  obtain ⟨⟨fd24, F24⟩, g24⟩ := hd_law_nt_no_net c X G
  obtain ⟨⟨fd25, F25⟩, g25⟩ := hd_law_st_side c X G
  obtain ⟨⟨fd26, F26⟩, g26⟩ := hd_law_st_on c X G
  obtain ⟨⟨fd27, F27⟩, g27⟩ := hd_law_st_meet c X G
  obtain ⟨⟨fd28, F28⟩, g28⟩ := hd_law_st_fault c X G
  obtain ⟨⟨fd29, F29⟩, g29⟩ := hd_law_st_drawing c X G
  obtain ⟨⟨fd30, F30⟩, g30⟩ := hd_law_st_no_places c X G
  obtain ⟨⟨fd31, F31⟩, g31⟩ := hd_law_k36_moved c X G
  obtain ⟨⟨fd32, F32⟩, g32⟩ := hd_law c X G
  obtain ⟨fd33, F33⟩ := hd_Net_init c
  have ck : CkB mg := ⟨fr_isinstance c X G, fr_int c X G, fr_bool c X G, fr_tuple c X G, fr_all c X G, fr_len c X G, fr_zip c X G⟩
  have ge : GeB mg := ⟨fr_min c X G, fr_max c X G⟩
  have ty : TyB mg := ⟨fr_range c X G, fr_tuple c X G, fr_sorted c X G⟩
  have mx : MxB mg := ⟨fr_list c X G, fr_len c X G⟩
  have dr : DrB mg := ⟨fr_abs c X G, fr_int c X G, fr_len c X G⟩
  have fb : FaB mg := ⟨fr_range c X G, fr_enumerate c X G⟩
  have lw : LwB mg := ⟨fr_range c X G, fr_min c X G, fr_max c X G, fr_isinstance c X G, fr_repr c X G, fr_list c X G⟩
  have gr : mg "range" = none := fr_range c X G
  have gi : mg "isinstance" = none := fr_isinstance c X G
  obtain ⟨gNet, clN⟩ := cl_Net c X G
  have mkN := mk_Net c
  have nt : NtF K mg (ga K "Net") (ma K (ga K "Net") "__init__") := ⟨clN, na_Net_many c, na_Net_ties c, mkN, gNet, ct_MOST_POINTS c X G⟩
  have mp := ct_MOST_PLACE c X G
  obtain ⟨x1, x2, _, _, x5⟩ := ex_A c
  obtain ⟨i1, i2⟩ := ins_I c (x := "Net") (by decide +kernel)
  have ins : InsF K (ga K "Net") := ⟨i1, x1, x2, i2⟩
  have nob : NoB K (ga K "Net") = true := x5 "Net" (by decide +kernel)
  obtain ⟨gBN, ⟨n1, n2, n3, n4⟩, n5⟩ := er_BadNet c X G
  obtain ⟨gBP, ⟨p1, p2, p3, p4⟩, p5⟩ := er_BadPlaces c X G
  obtain ⟨gDE, _, _⟩ := er_DrawError c X G
  have xN : ExF K mg "BadNet" (ga K "BadNet") := ⟨gBN, n1, n2, n3, n4⟩
  have xP : ExF K mg "BadPlaces" (ga K "BadPlaces") := ⟨gBP, p1, p2, p3, p4⟩
  have cN : ExcC K (ga K "BadNet") := exc_C c (by decide +kernel) n3
  have cP : ExcC K (ga K "BadPlaces") := exc_C c (by decide +kernel) p3
  have e := hfa.symm.trans g32
  cases e
  obtain ⟨cdL, hcdL, hcdI⟩ : ∃ cdL : Addr, fd32.code = .ref cdL ∧ codeOf K ("law", none) = cdL := by
    obtain ⟨oc, od, kV, doc, pm, an, cdv, ct, osl, rfl, lk, hcd⟩ := F32.ex
    obtain ⟨cc, rfl⟩ := codeIn_ref hcd
    exact ⟨cc, rfl, codeOf_eq (p := ("law", none)) lk rfl⟩
  refine ⟨fd32, fun s v => ?_, fun base _ _ hTB => ?_⟩
  · obtain ⟨oc, od, kV, doc, pm, an, cdv, ct, osl, rfl, lk, hcd⟩ := F32.ex
    exact BindsTo.of_eq rfl
  have tb : TabB base mg cdL (cT K ("law", none)).2 := by
    have := hTB (cT K ("law", none)) (List.mem_singleton_self _)
    rw [← hcdI]
    exact this
  have G1 : ∀ {sp : Sp}, True := fun {_} => trivial
  have k19 : CalX P w K mg base CX0 3 "_law_pick" ["state", "several"] spPick (ga K "_law_pick") fd19 := ⟨ok_pick F19 dr F17 g17 F18 g18, g19, F19.kp, F19.binds (ps := ["state", "several"]) fun _ _ _ _ _ _ us hl => match us, hl with | [_, _], _ => rfl⟩
  have k16 : CalX P w K mg base CX0 1 "_law_begun" ["script"] (spBegun K) (ga K "_law_begun") fd16 := ⟨ok_begun F16 dr, g16, F16.kp, F16.binds (ps := ["script"]) fun _ _ _ _ _ _ us hl => match us, hl with | [_], _ => rfl⟩
  have k29 : CalX P w K mg base CX0 4 "_law_st_drawing" ["state", "most", "reach"] (spDrawing K) (ga K "_law_st_drawing") fd29 := ⟨ok_drawing F29 dr mx ty F17 g17 F18 g18 F19 g19 F20 g20 F26 g26 F27 g27 F25 g25, g29, F29.kp, F29.binds (ps := ["state", "most", "reach"]) fun _ _ _ _ _ _ us hl => match us, hl with | [_, _, _], _ => rfl⟩
  have k18 : CalX P w K mg base CX0 2 "_law_draw" ["state", "size_here"] spDraw (ga K "_law_draw") fd18 := ⟨ok_draw F18 dr F17 g17, g18, F18.kp, F18.binds (ps := ["state", "size_here"]) fun _ _ _ _ _ _ us hl => match us, hl with | [_, _], _ => rfl⟩
  have k23 : CalX P w K mg base CX0 4 "_law_nt_ties" ["state", "many", "most"] (spTies K) (ga K "_law_nt_ties") fd23 := ⟨by apply ok_ties F23 dr mx ty F17 g17 <;> assumption, g23, F23.kp, F23.binds (ps := ["state", "many", "most"]) fun _ _ _ _ _ _ us hl => match us, hl with | [_, _, _], _ => rfl⟩
  have k31 : CalX P w K mg base CX0 4 "_law_k36_moved" ["state", "told_here"] (spMoved K) (ga K "_law_k36_moved") fd31 := ⟨ok_moved F31 dr F17 g17 F18 g18 F19 g19, g31, F31.kp, F31.binds (ps := ["state", "told_here"]) fun _ _ _ _ _ _ us hl => match us, hl with | [_, _], _ => rfl⟩
  have k28 : CalX P w K mg base CX0 4 "_law_st_fault" ["many", "ties", "places_here"] (spLFault K) (ga K "_law_st_fault") fd28 := ⟨ok_lfault F28 gr F26 g26 F27 g27 F25 g25, g28, F28.kp, F28.binds (ps := ["many", "ties", "places_here"]) fun _ _ _ _ _ _ us hl => match us, hl with | [_, _, _], _ => rfl⟩
  have q8 : FnOk P w K mg base (L2.CX P w) 5 (ga K "need_places") fd8 ["net", "places"] (spNeedPl K (ga K "Net") (ga K "BadNet") (ga K "BadPlaces")) := ok_needPl F8 ck nt ins xN xP mp F5 g5 F6 g6 F7 g7 F2 g2' F1 g1
  have q13 : FnOk P w K mg base CX0 3 (ga K "fault_at") fd13 ["net", "places"] (spFaultAt K (ga K "Net")) := ok_faultAt F13 nt fb ge F10 g10 F12 g12 F9 g9 F11 g11
  have q5 : FnOk P w K mg base (L2.CX P w) 1 (ga K "need_net") fd5 ["net"] (spNeed K (ga K "Net") (ga K "BadNet")) := ok_need F5 nt ins xN gi
  have q6 : FnOk P w K mg base CX0 4 (ga K "are_places") fd6 ["net", "value"] (spArePl K (ga K "Net")) := ok_arePl F6 ck nt mp F7 g7 F2 g2' F1 g1
  have k14 : CalX P w K mg base (L2.CX P w) 6 "fault_of" ["net", "places"] (spFaultOf K (ga K "Net") (ga K "BadNet") (ga K "BadPlaces")) (ga K "fault_of") fd14 := ⟨ok_faultOf F14 q8 F8 g8 q13 F13 g13, g14, F14.kp, F14.binds (ps := ["net", "places"]) fun _ _ _ _ _ _ us hl => match us, hl with | [_, _], _ => rfl⟩
  have k15 : CalX P w K mg base (L2.CX P w) 5 "is_drawing" ["net", "value"] (spIsDr K (ga K "Net") (ga K "BadNet")) (ga K "is_drawing") fd15 := ⟨ok_isDr F15 q5 F5 g5 q6 F6 g6 q13 F13 g13, g15, F15.kp, F15.binds (ps := ["net", "value"]) fun _ _ _ _ _ _ us hl => match us, hl with | [_, _], _ => rfl⟩
  have k22 : CalX P w K mg base CX0 1 "_law_is_truth" ["found", "due"] spTruth (ga K "_law_is_truth") fd22 := ⟨ok_truth F22, g22, F22.kp, F22.binds (ps := ["found", "due"]) fun _ _ _ _ _ _ us hl => match us, hl with | [_, _], _ => rfl⟩
  have k30 : CalX P w K mg base CX0 4 "_law_st_no_places" ["state", "many"] (spNoPl K) (ga K "_law_st_no_places") fd30 := ⟨ok_noPl F30 dr mx F17 g17 F18 g18 F19 g19, g30, F30.kp, F30.binds (ps := ["state", "many"]) fun _ _ _ _ _ _ us hl => match us, hl with | [_, _], _ => rfl⟩
  have k24 : CalX P w K mg base CX0 4 "_law_nt_no_net" ["state"] (spNoNet K (ga K "Net")) (ga K "_law_nt_no_net") fd24 := ⟨ok_noNet F24 dr nob F17 g17 F18 g18 F19 g19, g24, F24.kp, F24.binds (ps := ["state"]) fun _ _ _ _ _ _ us hl => match us, hl with | [_], _ => rfl⟩
  have qI : FnOk P w K mg base CX0 4 (ma K (ga K "Net") "__init__") fd33 ["self", "many", "ties"] (spNetI K (ga K "Net")) := by apply ok_netI F33 ck nt F4 g4 <;> assumption
  have bI : L2.Binds K fd33 ["self", "many", "ties"] [] := F33.binds (ps := ["self", "many", "ties"]) fun _ _ _ _ _ _ us hl => match us, hl with | [_, _, _], _ => rfl
  exact ok_law F32 hcdL tb dr lw nt n5 cN gBN p5 cP gBP gDE F21 g21 qI bI k16 k19 k29 k18 k23 k31 k28 k14 (kb2 F14 fun _ _ _ _ _ _ _ _ => rfl) k22 k15 (kb2 F15 fun _ _ _ _ _ _ _ _ => rfl) k30 k24
end My
open PySem PySem.W PySem.Calls PyProof.Rows
theorem PySem.Challenge.cw_flatdrawn_k36_drawings_judged_holds : PySem.Challenge.rw_flatdrawn_k36_drawings_judged.Holds := by
  w_on; o_law
  refine HandSHeadRun.head_any (r := OpenLaw.row PySem.Challenge.rw_flatdrawn_k36_drawings_judged) (q := view (OpenLaw.row PySem.Challenge.rw_flatdrawn_k36_drawings_judged).prog [44]) (H := My.hk) (ob := My.ob) (M := 15000) (loose := My.looseN) (d := HandSHeadRun.topDef (OpenLaw.row PySem.Challenge.rw_flatdrawn_k36_drawings_judged).prog 44) (kwd := []) My.ob_eq
    (by kernel_rfl) (fun s => by kernel_rfl) My.run (by kernel_rfl) (by kernel_rfl) (by kernel_rfl) (by rfl) (by first | assumption | decide +kernel) (by decide +kernel) ⟨rfl, rfl, rfl, rfl, rfl, by decide +kernel⟩ ?hw ?hc
  case hw => w_witness2
  case hc =>
    refine LamX.walk_ofTG (l := PySem.Challenge.rw_flatdrawn_k36_drawings_judged) (n := 63) (k := 9) (x := "script") (CX := L2.CX0) rfl (by decide) (by kernel_rfl) ⟨rfl, by decide, by decide⟩ ?F (fun _ _ _ _ z => z)
    intro w mg fa h Y G hmg0
    obtain ⟨K, KX, c⟩ := Y
    have hmg : mg ("law" : PySem.Str) = some (.ref fa) := by
      have e : (HandSHeadRun.topDef (OpenLaw.row PySem.Challenge.rw_flatdrawn_k36_drawings_judged).prog 44).name = ("law" : PySem.Str) := by kernel_rfl
      rw [← e]
      exact hmg0
    obtain ⟨fd, hb, hF⟩ := My.facts36 (P := (PySem.Challenge.rw_flatdrawn_k36_drawings_judged).prog) (w := w) KX G hmg c
    have hin : (("law", none) : He.Defn) ∈ My.tabF := by decide +kernel
    refine ⟨K, KX, fd, [He.cT K ("law", none)], My.spLaw K (He.cT K ("law", none)).2, fun p hp => ?_, fun p hp => ?_, fun p hp => ?_, hb, fun H a ns hl hT hS => ⟨a, ns, rfl, hS, hl, hT _ (List.mem_singleton_self _), fun _ => rfl⟩, hF⟩
    · rw [List.mem_singleton.mp hp]
      exact c.empty _ hin
    · rw [List.mem_singleton.mp hp]
      exact c.out _ hin
    · rw [List.mem_singleton.mp hp]
      exact PySem.W.codeHd_of_K KX (c.hd _ hin)
