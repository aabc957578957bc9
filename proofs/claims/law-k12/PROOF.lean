import PyProof.Rows.All
import Wide.All
import OpenK.AllK
import Wide.FinOn
import HandS.ForMost
import HandS.Evl
import HandS.Codes
import HandS.Exc
import HandS.ExcIs
import HandS.ExcField
import HandS.ExcInit
import HandS.TryOnly
import HandS.Lambda
import HandS.EndTab
import HandS.HeadWalk
import KE.KExcIs
import HandS.IsInst
import HandS.HeadHook1
import HandS.Defaults
import HandS.HeadHook4
import HandS.SortInts
import HandS.TupAny
import HandS.Style
import HandS.Deep
import HandS.Conv
import HandS.Wide
import HandS.Flow
import HandS.Zip
import HandS.Dict
import HandS.CallLocal
import Lean
import HandS.Head0
import HandS.Head1
import HandS.Head2
import HandS.HeadEnd
import HandS.HeadHook2
import HandS.HeadHook3
import HandS.WordsExc
import PySem.Challenge.RW_barhouse_k12_whole_phases_block_by_block
set_option Elab.async false
set_option linter.all false
set_option maxRecDepth 100000
set_option maxHeartbeats 2000000
/-! exceptions that are caught and kept; lambdas whose maker's table is followed exactly -/
namespace DL
open PySem PySem.Spec PyProof.Rows L2
/-- a caught exception at a: its class, its own dict -/
def ExT (a : Addr) (cls : Value) (d : Option Addr) : HO := .ext fun h => ∃ (o : Obj) (fv : Array Value), h.get? a = some o ∧ Zc cls d o ∧ o.data = .fields fv
section
variable {X : Cx} {pins : List (Addr × Obj)} {σ : L2.St} {H : Hp} {s : Shared} {a : Addr} {o : Obj} {fv : Array Value} {cls : Value} {d : Option Addr}
/-- an object that was new within this frame is followed from now on -/
theorem inv_follow (I : Inv X pins σ H s) (ho : s.heap.get? a = some o) (oz : Zc cls d o) (od : o.data = .fields fv) (un : H a = none) (new : X.s_0.heap.get? a = none) (np : ∀ p ∈ X.pn ++ pins, p.1 ≠ a) : Inv X pins σ (upd H a (ExT a cls d)) s := by
  have other : ∀ {b : Addr} {u : HO}, H b = some u → b ≠ a := fun e z => by rw [z, un] at e; cases e
  have older : ∀ {b : Addr} {u : Obj}, X.s_0.heap.get? b = some u → b ≠ a := fun e z => by rw [z, new] at e; cases e
  have nloc : X.env.locals ≠ a := fun z => by
    obtain ⟨m, ⟨w, es, ep, hw, hw2, _⟩, _⟩ := I.loc
    rw [z, ho] at hw
    cases hw
    rw [od] at hw2
    cases hw2
  have ncell : ∀ x c, X.env.cells.lookup x = some c → c ≠ a := fun x c e z => by
    obtain ⟨v, w, hw, hw2⟩ := I.cell x c e
    rw [z, ho] at hw
    cases hw
    rw [od] at hw2
    cases hw2
  refine ⟨I.ok, I.os, I.bare, ⟨I.base.keep, I.base.slot, fun b u e n x => ?_, I.base.there, fun b xs e => ?_, fun b u w e => ?_, fun b ps e => ?_⟩, I.loc, I.cell, ?_, fun x c e => ?_, fun p hp => ?_, fun b u e => ?_, I.len⟩
  · rw [upd_ne (older e)]
    exact I.base.free b u e n x
  · have q := I.base.tups b xs e
    rw [upd_ne (other q)]
    exact q
  · have q := I.base.frzs b u w e
    rw [upd_ne (other q)]
    exact q
  · obtain ⟨more, q⟩ := I.base.tbls b ps e
    exact ⟨more, by rw [upd_ne (other q)]; exact q⟩
  · rw [upd_ne nloc]
    exact I.free
  · rw [upd_ne (ncell x c e)]
    exact I.freeC x c e
  · obtain ⟨q1, q2, q3⟩ := I.pin p hp
    exact ⟨q1, by rw [upd_ne (np p hp)]; exact q2, q3⟩
  · by_cases z : b = a
    · subst z
      rw [upd_same] at e
      cases e
      exact ⟨⟨o, fv, ho, oz, od⟩, ⟨o, ho⟩, fun h1 h2 ⟨w, ws, q1, q2⟩ k => ⟨w, ws, k w q1, q2⟩⟩
    · rw [upd_ne z] at e
      exact (I.hok b u e).stay (fun _ _ _ q => q) (fun c q => by rw [upd_ne (other q)]; exact q) fun c xs q => by rw [upd_ne (other q)]; exact q
/-- what is known of it -/
theorem ext_at (I : Inv X pins σ H s) (e : H a = some (ExT a cls d)) : ∃ (o : Obj) (fv : Array Value), s.heap.get? a = some o ∧ Zc cls d o ∧ o.data = .fields fv := by
  have q : ObjOk X.prog X.w H s.heap a (.ext fun h => ∃ (o : Obj) (fv : Array Value), h.get? a = some o ∧ Zc cls d o ∧ o.data = .fields fv) := I.hok a _ e
  exact q.1
end
/-- try: body / except x as n: suite, all that is raised being of x; behind the suite the exception is known -/
def wKeep (K : PySem.W.Frag) (c : Value) (i : Nat) (ts : Addr → Value → Option Addr → TS) (D : Ends) : WX := fun cls d σ H =>
  PySem.W.exmOne K cls c = some true ∧ ∀ a, H a = none → ts a cls d { nx := fun τ H' => D.nx (τ.set i none) (upd H' a (ExT a cls d)), rt := fun _ _ => False } (σ.set i (some (.ref a))) H
section
variable {X : Cx} {x n : Str} {c : Value} {i : Nat} {body : List Stmt} {st : Stmt} {np hp pos : Pos} {tb : WX → TS} {ts : Addr → Value → Option Addr → TS}
theorem ps_try_keep (hs : X.stack = X.env :: X.outer) (hf : X.env.frame = some X.env.locals) (hx : X.ex = []) (nd : X.N.Nodup) (hi : X.N[i]? = some n) (hl : X.env.kindOf n = some .local) (hc : Names X x c)
    (hb : ∀ (W : WX) (pn : List (Addr × Obj)) (xe : Value → Shared → Prop), Takes (X.tr pn xe) W → PSs (X.tr pn xe) body (tb W))
    (hu : ∀ (a : Addr) (oe : Obj) (cls : Value) (d : Option Addr) (pn : List (Addr × Obj)), PSs (X.suite a ((a, oe) :: pn)) [st] (ts a cls d)) :
    PS X (.Try body [.ExceptHandler (some (.Name x np)) (some n) [st] hp] [] [] pos) (fun D σ H => tb (wKeep X.K c i ts D) D σ H) := by
  refine ⟨fun pins s σ H D I h => ?_⟩
  have fr : X.A.frames = some (X.env :: X.outer) := by rw [I.ok.frames, hs]
  have ok := I.ok
  refine wpAny_Try_except ?_
  refine wpAny_mono ((hb (wKeep X.K c i ts D) (X.pn ++ pins) (fun e s1 => wpAny (model X.prog X.w) X.A (noteFrame e X.env) (fun _ s2 => wpAny (model X.prog X.w) X.A (setFlight e none)
    (fun _ s3 => wpAny (model X.prog X.w) X.A (handleBy e X.env [.ExceptHandler (some (.Name x np)) (some n) [st] hp]) (SP X pins D) X.xe s3) X.xe s2) X.xe s1) (fun u s' air => ?_)).run [] s σ H D (I.toTry _) h)
    (fun f s1 q => ?_) fun _ _ z => z
  · obtain ⟨a, B, sI, pins', τ, H', cls, d, rfl, J0, nb, up, sky, na, os, ag, hb1, suite⟩ := air
    have J := J0.ofTry ok
    rw [hs] at sky
    show wpAny (model X.prog X.w) X.A (noteFrame (.ref a) X.env) _ _ _
    refine Sky.land Zc.steady fr hf sky fun h3 fl3 up3 => ?_
    have J3 : Inv X pins τ H' { s' with heap := h3 } := J.landed nb fl3.1 (up.trans up3) os ag
    obtain ⟨o3, v3, g3, z3, d3⟩ := fl3.there
    have nfr : a ∉ frs (X.env :: X.outer) := fun hm => by
      obtain ⟨_, w, e, nf⟩ := fl3.2.2.1.mem hm
      rw [g3] at e
      cases e
      exact nf _ d3
    have nB : B.get? a = none := fl3.2.1
    have nI : sI.heap.get? a = none := by
      cases q : sI.heap.get? a with
      | none => rfl
      | some w =>
        have z := nb a w q (by rw [hs]; exact nfr)
        rw [nB] at z
        cases z
    have n0 : X.s_0.heap.get? a = none := by
      cases q : X.s_0.heap.get? a with
      | none => rfl
      | some w =>
        obtain ⟨w', z⟩ := J.base.there a w q (by rw [hx]; exact fun z => nomatch z)
        rw [nI] at z
        cases z
    have nP : ∀ p ∈ X.pn ++ pins, p.1 ≠ a := fun p hp z => by
      have q := (J.pin p hp).1
      rw [z, nI] at q
      cases q
    have nL : a ≠ X.env.locals := fun z => nfr (List.mem_filterMap.mpr ⟨X.env, List.mem_cons_self, by rw [hf, z]⟩)
    have nF : a ∉ X.fs := fun hm => by
      obtain ⟨e, he, q⟩ := List.mem_filterMap.mp hm
      exact nfr (List.mem_filterMap.mpr ⟨e, List.mem_cons_of_mem _ he, q⟩)
    refine wpAny_handleBy_cons (codeAny_handlers_test ?_) (by intro q; cases q)
    have T3 := J3.suite g3 d3 na nL nF
    have ty : PySem.W.Looks (model X.prog X.w) h3 (typeOf (.ref a)) cls := fun A Q E s k q => wpAny_typeOf_ref (k _ _ g3) (by rw [z3.1]; exact q)
    have LM := PySem.W.exm_one (M := model X.prog X.w) J3.kIn ty hb1
    have look : ∀ {Q E : Value → Shared → Prop}, Q c { s' with heap := h3 } → wpAny (model X.prog X.w) (X.A.mark (some (.ref a))) (eval (.Name x np) X.env) Q E { s' with heap := h3 } := fun {Q E} q => by
      obtain ⟨hg, hdb, m | ⟨m, v, nn⟩⟩ := hc
      · exact ld_glob (X := X.suite a ((a, o3) :: (X.pn ++ pins))) T3 hg m q hdb
      · exact ld_blt (X := X.suite a ((a, o3) :: (X.pn ++ pins))) T3 hg m v q nn hdb
    refine look (LM.here (codeAny_handlers_suite_as (HandSPX.lands_againZ fl3 fun h4 fl4 up4 => ?_)))
    have J4 : Inv X pins τ H' { s' with heap := h4 } := J.landed nb fl4.1 ((up.trans up3).trans up4) os ag
    obtain ⟨o4, v4, g4, z4, d4⟩ := fl4.there
    refine store_ok (X := X.suite a ((a, o4) :: (X.pn ++ pins))) (v := .ref a) (J4.suite g4 d4 na nL nF) nd hi (.inl hl) rfl (fun s5 S5 => ?_) (.inr hl)
    refine wpAny_mono ((hu a o4 cls d (X.pn ++ pins)).run [] s5 _ H' _ S5 (suite a na)) (fun f s6 q6 => ?_) fun _ _ z => z.elim
    cases f with
    | next =>
      obtain ⟨τ6, H6, S6, q6⟩ := q6
      obtain ⟨e6, n6, _⟩ := S6.pin (a, o4) (List.mem_append_left _ List.mem_cons_self)
      have J6 := inv_follow (S6.unsuite ok) e6 z4 d4 n6 n0 nP
      exact gone_ok J6 nd hi hl fun s7 J7 => ⟨_, _, J7, q6⟩
    | brk => obtain ⟨_, _, _, q6⟩ := q6; exact q6.elim
    | cont => obtain ⟨_, _, _, q6⟩ := q6; exact q6.elim
    | ret u => obtain ⟨_, _, _, _, _, q6⟩ := q6; exact q6.elim
  · cases f with
    | next => exact wpAny_execs_nil (let ⟨τ, H', J, q⟩ := q; ⟨τ, H', J.ofTry ok, q⟩)
    | brk => exact let ⟨τ, H', J, q⟩ := q; ⟨τ, H', J.ofTry ok, q⟩
    | cont => exact let ⟨τ, H', J, q⟩ := q; ⟨τ, H', J.ofTry ok, q⟩
    | ret u => exact let ⟨v, τ, H', J, r, q⟩ := q; ⟨v, τ, H', J.ofTry ok, r, q⟩
end
/-- != of two lists of unlike lengths -/
def rNeL (K : PySem.W.Frag) : R2 := fun x y H Q => ∃ a b xs ys, x = .ref a ∧ y = .ref b ∧ SqL K H a xs ∧ SqL K H b ys ∧ xs.length ≠ ys.length ∧ Q (.bl true) H
theorem op_neL {X : Cx} (hu : X.A.units < cLine) : OpR X (compareOp .NotEq) (rNeL X.K) := by
  intro pins s σ H x y v u Q I rx ry h
  obtain ⟨a, b, xs, ys, rfl, rfl, h1, h2, ne, q⟩ := h
  cases rx
  cases ry
  obtain ⟨i1, r1, p1, _⟩ := I.list h1
  obtain ⟨i2, r2, p2, _⟩ := I.list h2
  exact SeqAt.RcNeAt.lists_lengths p1.isList p2.isList (by have := r1.length; have := r2.length; simp; omega) hu X.prog X.w _ _ ⟨.bl true, H, I, rfl, q⟩
end DL

namespace DL
open PySem PySem.Spec PyProof.Rows L2
/-! ### classes of errors, by a look -/
def oexB (K : PySem.W.Frag) (C : Addr) : Bool := match K.lookup C with
  | some ⟨.type "type", _, .cls cd, sl⟩ => (match cd.mro, sl.toList with
    | .ref D :: up, [_, _, _, _, some (.builtin n), _] => (D == C && n == "ValueError.__new__") && ((!cd.hasDel && cd.hasDict) && PySem.HandSPX.refsVE up)
    | _, _ => false)
  | _ => false
theorem oexB_ok {K : PySem.W.Frag} {C : Addr} (h : oexB K C = true) : ∃ nm q N bs bm sn sub ab col dd k0 k1 k2 k3 k5, K.lookup C = some (excClassObj nm q C N bs bm true sn sub ab col dd k0 k1 k2 k3 k5 "ValueError.__new__") ∧ PySem.HandSPX.refsVE bm = true := by
  unfold oexB at h
  split at h
  · rename_i dd cd sl e
    split at h
    · rename_i D up k0 k1 k2 k3 n k5 e1 e2
      simp only [Bool.and_eq_true, beq_iff_eq, Bool.not_eq_true'] at h
      obtain ⟨⟨rfl, rfl⟩, ⟨h1, h2⟩, h3⟩ := h
      obtain ⟨nm, bs, mro, N, qn, hd, sn, sub, ab, col, dl⟩ := cd
      obtain ⟨sl⟩ := sl
      dsimp only at e1 e2 h1 h2
      subst e1 e2 h1 h2
      exact ⟨nm, qn, N, bs, up, sn, sub, ab, col, dd, k0, k1, k2, k3, k5, e, h3⟩
    · cases h
  · cases h
def dq {α : Type} [DecidableEq α] (a b : α) : Bool := decide (a = b)
def errB (K : PySem.W.Frag) (C : Addr) : Bool := (oexB K C && PySem.W.keepIn K (.ref C)) && ((He.eqO (PySem.W.findIn K (.ref C) "__setattr__") (some (some (.builtin "object.__setattr__"))) && dq (PySem.W.subIn K (.ref C) (.type "BaseException")) (some true)) &&
  ((decide (PySem.W.typeIn K (.ref C) = some (.type "type")) && He.eqO (PySem.W.findIn K (.ref C) "__getattribute__") (some (some (.builtin "BaseException.__getattribute__")))) && ((He.eqO (PySem.W.findIn K (.ref C) "__getattr__") (some none) && PySem.W.hasDictIn K C) &&
  ((He.eqO (PySem.W.findIn K (.ref C) "__class__") (some (some (.builtin "object.__class__"))) && He.eqO (PySem.W.specialIn K (.builtin "object.__class__") "__get__") (some (some (.builtin "getset_descriptor.__get__")))) &&
  ((dq (PySem.W.takesIn K (.builtin "object.__class__")) (some true) && dq (PySem.W.mroIn K C (.type "object")) (some true)) && (PySem.W.clsIn K C).isSome)))))
/-- an own class of errors: made, raised, asked -/
structure ErrC (K : PySem.W.Frag) (C : Addr) : Prop where
  oex : OexC K C
  xf : XfC K C
  cl : (PySem.W.clsIn K C).isSome = true
  ha : PySem.W.findIn K (.ref C) "__class__" = some (some (.builtin "object.__class__"))
  hn : PySem.W.specialIn K (.builtin "object.__class__") "__get__" = some (some (.builtin "getset_descriptor.__get__"))
  ht : PySem.W.takesIn K (.builtin "object.__class__") = some true
  hm : PySem.W.mroIn K C (.type "object") = some true
theorem bb {a b : Bool} (h : (a && b) = true) : a = true ∧ b = true := Bool.and_eq_true_iff.mp h
theorem errB_ok {K : PySem.W.Frag} {C : Addr} (h : errB K C = true) : ErrC K C := by
  obtain ⟨h1, h⟩ := bb h
  obtain ⟨a1, a2⟩ := bb h1
  obtain ⟨h1, h⟩ := bb h
  obtain ⟨b1, b2⟩ := bb h1
  obtain ⟨h1, h⟩ := bb h
  obtain ⟨c1, c2⟩ := bb h1
  obtain ⟨h1, h⟩ := bb h
  obtain ⟨d1, d2⟩ := bb h1
  obtain ⟨h1, h⟩ := bb h
  obtain ⟨e1, e2⟩ := bb h1
  obtain ⟨h1, h⟩ := bb h
  obtain ⟨f1, f2⟩ := bb h1
  exact ⟨⟨oexB_ok a1, He.eqO_ok b1, of_decide_eq_true b2, of_decide_eq_true c1, a2⟩, ⟨He.eqO_ok c2, He.eqO_ok d1, of_decide_eq_true b2, d2⟩, h, He.eqO_ok e1, He.eqO_ok e2, of_decide_eq_true f1, of_decide_eq_true f2⟩
/-- R.__init__ is ValueError's -/
structure IniC (K : PySem.W.Frag) (R : Addr) : Prop where
  ga : PySem.W.specialIn K (.ref R) "__getattribute__" = some (some (.builtin "type.__getattribute__"))
  rd : PySem.W.readsIn K R (.type "type") = true
  fi : PySem.W.findCls K (.ref R) (.type "type") "__init__" = some (.val (.builtin "ValueError.__init__"))
def isVal : Option PySem.W.CFound → Bool
  | some (.val (.builtin n)) => n == "ValueError.__init__"
  | _ => false
def iniB (K : PySem.W.Frag) (R : Addr) : Bool := He.eqO (PySem.W.specialIn K (.ref R) "__getattribute__") (some (some (.builtin "type.__getattribute__"))) && (PySem.W.readsIn K R (.type "type") && isVal (PySem.W.findCls K (.ref R) (.type "type") "__init__"))
theorem iniB_ok {K : PySem.W.Frag} {R : Addr} (h : iniB K R = true) : IniC K R := by
  obtain ⟨h1, h⟩ := bb h
  obtain ⟨h2, h3⟩ := bb h
  refine ⟨He.eqO_ok h1, h2, ?_⟩
  generalize PySem.W.findCls K (.ref R) (.type "type") "__init__" = z at h3
  unfold isVal at h3
  split at h3
  · rename_i n
    rw [beq_iff_eq.mp h3]
  · cases h3
/-! ### R.__init__(self, ..) -/
section
variable {X : Cx} {e : Expr} {es : List Expr} {ta : TA} {p1 p2 pos : Pos} {x : Str} {R : Addr}
theorem pe_rinit {pl : Sem Bool} (hg : Gl X x) (hm : X.mg x = some (.ref R)) (T : IniC X.K R) (ha : PA X (e :: es) ta)
    (hc : eval (.Call (.Attribute (.Name x p1) "__init__" p2) (e :: es) [] pos) X.env = (do
      let ov ← eval (.Name x p1) X.env
      standAt p2.atName
      let (f, first) ← holding [ov] (getMethod ov "__init__" pl)
      callWith pos f first (backTo pos (starEach (e :: es) X.env)) (backToKw pos (keywordEach [] X.env))) := by rfl)
    (hdb : (x == ("__debug__" : Str)) = false := by decide) (he : starEach (e :: es) X.env = (false, eval e X.env) :: starEach es X.env := by rfl) (hpl : (backTo pos (starEach es X.env)).any (·.1) = false := by rfl) :
    PE X (.Call (.Attribute (.Name x p1) "__init__" p2) (e :: es) [] pos) (tVeI X.K ta) := by
  refine ⟨fun pins s σ H Q I h => PySem.W.methodCall_KW (ld_glob I hg hm ?_ hdb) hc⟩
  refine PySem.W.method_cls I.kIn T.ga (PySem.W.cls_value I.kIn T.rd T.fi (by decide +kernel) ?_)
  show wpAny _ _ (callWith pos (Value.builtin "ValueError.__init__") [] (backTo pos (starEach (e :: es) X.env)) []) _ _ _
  refine PyProof.Rows.callWith_method1 (thn (ha.run pos pins _ σ H _ (I.tok _) h) fun us s1 ⟨vs, H1, I1, r1, a, C, ws, ev, hl, T, ea, q⟩ => ?_) he hpl
  subst ev
  cases r1 with
  | @cons _ u0 _ ur ra rr =>
    have z : u0 = Value.ref a := ra
    subst z
    exact oinit_ok T I1 ea (by rw [← Paired.length rr, sizeLine_eq]; omega) fun s' J => ⟨.non, H1, J, rfl, q⟩
end
/-- an __init__ that makes the base's, then stores one field -/
def spI (K : PySem.W.Frag) (C : Addr) (fld : Str) : Sp := fun vs H Q _ => ∃ (a : Addr) (y : V), vs = [.ref a, y] ∧ H a = some (exo a C none) ∧ OexC K C ∧ PySem.W.findIn K (.ref C) fld = some none ∧
  ∀ dx, H dx = none → dx ≠ a → Q .non (upd (upd H dx (exd dx [(fld, y)])) a (exo a C (some dx)))
section
variable {P : Program} {w : World} {K : PySem.W.Frag} {mg : Str → Option Value} {base : Heap} {x qual : Str} {params : Arguments} {scope : Scope} {f : Addr} {fd : FuncData}
theorem fn_init {C R : Addr} {rn fld n1 n2 z : Str} {j k : Nat} {q1 q2 q3 q4 q5 q6 q7 q8 q9 q10 : Pos}
    (F : FunD K x qual params [.Expr (.Call (.Attribute (.Name rn q1) "__init__" q2) [.Name n1 q3, .Constant (.str z) j q4] [] q5) q6, .Assign [.Attribute (.Name n1 q7) fld q8] (.Name n2 q9) q10] scope [] [] f fd) (S : FnScope [n1, n2] [n1, n2] scope)
    (hm : mg rn = some (.ref R)) (T : IniC K R) (hg : scope.names.lookup rn = some .globalImplicit) (v1 : scope.names.lookup n1 = some .local) (v2 : scope.names.lookup n2 = some .local)
    (hdb : (rn == ("__debug__" : Str)) = false := by decide) (hd1 : (n1 == ("__debug__" : Str)) = false := by decide) (hc1 : (n1 == ("__classdict__" : Str)) = false := by decide) (hd2 : (n2 == ("__debug__" : Str)) = false := by decide) (hc2 : (n2 == ("__classdict__" : Str)) = false := by decide)
    (hc : ∀ (L g : Addr) (cdv : Value), ∃ pl : Sem Bool, eval (.Call (.Attribute (.Name rn q1) "__init__" q2) [.Name n1 q3, .Constant (.str z) j q4] [] q5) (envOfC qual scope L g cdv) = (do
      let ov ← eval (.Name rn q1) (envOfC qual scope L g cdv)
      standAt q2.atName
      let (f, first) ← holding [ov] (getMethod ov "__init__" pl)
      callWith q5 f first (backTo q5 (starEach [.Name n1 q3, .Constant (.str z) j q4] (envOfC qual scope L g cdv))) (backToKw q5 (keywordEach [] (envOfC qual scope L g cdv)))))
    (hs : ∀ (L g : Addr) (cdv : Value), swapsWith (.Call (.Attribute (.Name rn q1) "__init__" q2) [.Name n1 q3, .Constant (.str z) j q4] [] q5) none q6.line (envOfC qual scope L g cdv) = pure false)
    (hs2 : ∀ (L g : Addr) (cdv : Value), swapsWith (.Name n2 q9) (some (.Attribute (.Name n1 q7) fld q8)) q10.line (envOfC qual scope L g cdv) = pure false) :
    FnOk P w K mg base L2.CX0 (k + 1) f fd [n1, n2] (spI K C fld) := by
  refine F.ok S (fun vs H Q E h => ?_) (fun cdv A outer s H vs Q E hr h => ?_)
  · obtain ⟨a, y, rfl, _⟩ := h
    rfl
  · obtain ⟨a, y, rfl, e, T1, no, fin⟩ := h
    obtain ⟨pl, ec⟩ := hc s.heap.objs.size f cdv
    refine ⟨_, pss_cons (ps_expr (pe_rinit (X := cxOf L2.CX0 P w K mg base [n1, n2] qual scope f cdv A outer s H E) (R := R) hg hm T (pa_cons (pe_var (i := 0) rfl (.inl v1) hd1 hc1) (pa_cons pe_str pa_nil)) ec hdb) (hs _ _ _))
      (pss_one (ps_ost (pe_var (i := 0) rfl (.inl v1) hd1 hc1) (pe_var (i := 1) rfl (.inl v2) hd2 hc2) (hs2 _ _ _))), ?_⟩
    exact ⟨_, rfl, a, C, [.str z], rfl, (show 1 ≤ 1000 by decide), T1, e, _, rfl, _, rfl, a, C, rfl, T1, no, .inl ⟨e, fun dx n1 n2 => fin dx n1 n2⟩⟩
end
/-! ### what is asked of a caught error -/
/-- e.f -/
def tXat (K : PySem.W.Frag) (f : Str) (te : TE) : TE := fun σ H Q => te σ H fun x H1 => ∃ (a C dd : Addr) (fs : List (Str × V)) (v : V), x = .ref a ∧ H1 a = some (ExT a (.ref C) (some dd)) ∧ H1 dd = some (.xd fs) ∧ fs.lookup f = some v ∧ XfC K C ∧ PySem.W.findIn K (.ref C) f = some none ∧ Q v H1
theorem pe_xat {X : Cx} {e : Expr} {te : TE} {f : Str} {pos : Pos} (he : PE X e te) (hb : attributeBase e f X.env (eval e X.env) = eval e X.env := by rfl) : PE X (.Attribute e f pos) (tXat X.K f te) := by
  refine ⟨fun pins s σ H Q I h => attr_of hb (thn (he.run pins s σ H _ I h) fun u s1 ⟨x, H1, I1, rx, a, C, dd, fs, v, ex, e1, e2, l, T, no, q⟩ => ?_)⟩
  subst ex
  have eu : u = Value.ref a := rx
  subst eu
  obtain ⟨o, fv, ho, hz, hd⟩ := ext_at I1 e1
  have hx : ObjOk X.prog X.w H1 s1.heap dd (.xd fs) := I1.hok dd _ e2
  obtain ⟨m, hns, hr⟩ := hx
  obtain ⟨od, g1, g2⟩ := lookIn_ns hns
  obtain ⟨u, hu, ru⟩ := RelO.some_of (v := v) (o := m f) (by rw [← l]; exact hr f)
  have J : PySem.W.InstAt s1.heap a o C (some od) := ⟨ho, hz.1, by unfold PySem.W.notCls; rw [hd] <;> rfl, by rw [hz.2]; exact g1⟩
  exact HandSPX.exc_get I1.kIn J T.ga T.gg T.exC (PySem.W.findObj_own T.hdC no rfl (by rw [g2, hu])) (handed_of ru) ⟨v, H1, I1.tok _, ru, q⟩
/-- isinstance(e, c) -/
def rIsX (K : PySem.W.Frag) : List V → Hp → VK → Prop := fun xs H Q => ∃ (a C : Addr) (d : Option Addr) (c : V) (cv : Value) (b : Bool), xs = [.ref a, c] ∧ H a = some (ExT a (.ref C) d) ∧ (∀ dd, d = some dd → ∃ fs, H dd = some (.xd fs)) ∧ ErrC K C ∧
  (∀ u, RelV c u → u = cv) ∧ PySem.W.kitOne K (.ref C) cv = some b ∧ Q (.bl b) H
theorem call_isX {X : Cx} : CallR X (.builtin "isinstance") (rIsX X.K) := by
  intro pins s σ H xs us Q I r h
  obtain ⟨a, C, d, c, cv, b, rfl, e1, e2, T, hcv, e, q⟩ := h
  cases r with
  | cons rx rr =>
    cases rr with
    | cons rt rr =>
      cases rr
      cases rx
      have ec := hcv _ rt
      subst ec
      obtain ⟨o, fv, ho, hz, hd⟩ := ext_at I e1
      have fin : ∀ tk : Nat, EP X pins σ Q (.bool b) { s with toks := tk } := fun tk => ⟨.bl b, H, I.kept (t' := tk) fun _ _ z => z, rfl, q⟩
      have nc : PySem.W.notCls o = true := by unfold PySem.W.notCls; rw [hd] <;> rfl
      cases d with
      | none => exact PySem.W.kia_one (PySem.W.kitx_exc T.cl T.xf.ga T.xf.gg T.xf.exC T.ha T.hn T.ht T.hm) I.kIn (show PySem.W.InstAt s.heap a o C none from ⟨ho, hz.1, nc, by rw [hz.2]; trivial⟩) e (fun z => nomatch z) fin
      | some dd =>
        obtain ⟨fs, e3⟩ := e2 dd rfl
        have hx : ObjOk X.prog X.w H s.heap dd (.xd fs) := I.hok dd _ e3
        obtain ⟨m, hns, _⟩ := hx
        obtain ⟨od, g1, _⟩ := lookIn_ns hns
        exact PySem.W.kia_one (PySem.W.kitx_exc T.cl T.xf.ga T.xf.gg T.xf.exC T.ha T.hn T.ht T.hm) I.kIn (show PySem.W.InstAt s.heap a o C (some od) from ⟨ho, hz.1, nc, by rw [hz.2]; exact g1⟩) e (fun z => nomatch z) fin
end DL

namespace DL
open PySem PySem.Spec PyProof.Rows L2
open LamX (CodeO TabB LamS lamEnv lamCx)
/-! ### a lambda is made: what becomes of the maker's table -/
structure Kt (P : Addr) (q : Str) (G H : Hp) (ps : Array Value) : Prop where
  at_ : H P = some (.tbl ps)
  tri : TriplesOk ps.toList
  cod : ∀ pos cv, codeAmong pos ps.toList = some cv → ∃ c, cv = .ref c ∧ G c = some (CodeO c q)
/-- the same heap, or a code object more -/
def Kn (P : Addr) (q : Str) (ps : Array Value) (H H1 : Hp) : Prop := H1 = H ∨ ∃ (c : Addr) (more : Array Value), H c = none ∧ TriplesOk (ps ++ more).toList ∧ (∀ pos cv, codeAmong pos (ps ++ more).toList = some cv → codeAmong pos ps.toList = some cv ∨ cv = .ref c) ∧
  H1 = upd (upd H P (.tbl (ps ++ more))) c (CodeO c q)
section
variable {X : Cx} {pins : List (Addr × Obj)} {σ : L2.St} {H : Hp} {s : Shared}
abbrev lamQ (X : Cx) : Str := X.env.qual ++ "<lambda>"
theorem lam_new {c P : Addr} {ps : Array Value} {params : Arguments} {body : Expr} {scope : Scope} {pos : Pos} {E Q : Value → Shared → Prop} (I : Inv X pins σ H s) (TB : TabB X.base X.mg c P) (hcode : X.env.code = .ref c)
    (k : Kt P (lamQ X) H H ps) (hdef : defaultsOf params X.env = ([], [])) (hfree : ∀ y ∈ scope.names, y.2 = .free → ∃ c, X.env.cells.lookup y.1 = some c)
    (h : ∀ (f c' : Addr) (pm ctv : Value) (H1 : Hp) (s' : Shared), Inv X pins σ H1 s' → Kn P (lamQ X) ps H H1 → s'.heap.get? f = some (PySem.W.kla_obj "<lambda>" (lamQ X) params body scope (cloFrom X.env.cells scope.names []) pm c' ctv) → H1 f = none → f ∉ frs X.stack →
      H1 c' = some (CodeO c' (lamQ X)) → Q (.ref f) s') : wpAny (model X.prog X.w) X.A (eval (.Lambda params body scope pos) X.env) Q E s := by
  have hb : s.heap.BuiltinsAt X.mg P := TB.bm.keeps I.bk
  have hp : s.heap.get? P = some { cls := .none, data := .fields ps } := I.hok P _ k.at_
  have far : ∀ f, s.heap.objs.size ≤ f → f ∉ frs X.stack := fun f hf z => by
    rcases List.mem_cons.mp (I.stkSub _ z) with e | e
    · have l := I.lt
      rw [← e] at l
      exact absurd (Nat.lt_of_lt_of_le l hf) (Nat.lt_irrefl _)
    · exact I.nofs hf e
  refine PySem.W.kla_eval hdef ?_
  cases hit : codeAmong pos ps.toList with
  | some cv =>
    obtain ⟨c', rfl, hco⟩ := k.cod pos cv hit
    refine PySem.W.kla_makeFunctionHit (mg := X.mg) (c := c) (P := P) (ps := ps) (closure_ok hfree) I.ok.glob (I.mod.glob.keeps I.bk) hcode (TB.code.keeps I.bk) hp k.tri hit hb fun ctv h' tk hx sz => ?_
    exact h h'.objs.size c' ((X.mg "__name__").getD .none) ctv H { s with heap := h'.push (PySem.W.kla_obj "<lambda>" (lamQ X) params body scope (cloFrom X.env.cells scope.names []) ((X.mg "__name__").getD .none) c' ctv), toks := tk }
      (I.kept fun b o e => Heap.get?_push_of_some _ (hx b o e)) (.inl rfl) (Heap.get?_push_size _ rfl) (I.hok.fresh sz) (far _ sz) hco
  | none =>
    refine PySem.W.kla_makeFunction (mg := X.mg) (c := c) (P := P) (ps := ps) (closure_ok hfree) I.ok.glob (I.mod.glob.keeps I.bk) hcode (TB.code.keeps I.bk) hp k.tri hit TB.gP hb fun c' ctv h' tk hx lo lt rec tb => ?_
    obtain ⟨_, oc, vs, t, e2, hoc, hd, hv⟩ := rec
    cases e2
    have sz : s.heap.objs.size ≤ h'.objs.size := by omega
    have nc : H c' = none := I.hok.fresh lo
    have n1 : h'.objs.size ≠ c' := by omega
    have n2 : h'.objs.size ≠ P := Nat.ne_of_gt (Nat.lt_of_lt_of_le (Heap.lt_size hp) sz)
    have el : (ps ++ #[rawInt pos.line, rawInt pos.col, .ref c']).toList = ps.toList ++ [rawInt pos.line, rawInt pos.col, .ref c'] := by simp
    have J := LamX.inv_table (t' := tk) (more := #[rawInt pos.line, rawInt pos.col, .ref c']) (h' := h'.push (PySem.W.kla_obj "<lambda>" (lamQ X) params body scope (cloFrom X.env.cells scope.names []) ((X.mg "__name__").getD .none) c' ctv)) (q := lamQ X) I k.at_
      (fun b o ne e => Heap.get?_push_of_some _ (hx b o ne e)) (Heap.get?_push_of_some _ tb) lo ⟨oc, vs, t, Heap.get?_push_of_some _ hoc, hd, hv⟩
    refine h h'.objs.size c' ((X.mg "__name__").getD .none) ctv _ _ J (.inr ⟨c', _, nc, by rw [el]; exact PySem.TriplesOk_snoc _ _ _ _ k.tri, fun p' cv z => ?_, rfl⟩) (Heap.get?_push_size _ rfl) ?_ (far _ sz) upd_same
    · rw [el] at z
      exact LamX.among_app _ k.tri z
    · rw [upd_ne n1, upd_ne n2]
      exact I.hok.fresh sz
end
/-! ### the lambda is called in the def that got it; what is raised is wished for at that def's slots -/
section
variable {X : Cx} {pins : List (Addr × Obj)} {σ : L2.St} {H : Hp} {s : Shared}
def rAct (W : WX) (E : XK) (i : Nat) (f c' : Addr) (q : Str) (tl : Hp → VK → Prop) : TE := fun τ HZ Q => (∀ cls d H', E cls d H' → W cls d τ H') ∧ τ[i]? = some (some (.ref f)) ∧ HZ c' = some (CodeO c' q) ∧ tl HZ Q
theorem act_at {CXg : CXT} {Eg : XK} {Ng : List Str} {qg : Str} {sg : Scope} {g f c' : Addr} {cdg pm ctv : Value} {params : Arguments} {body : Expr} {scope : Scope} {k i : Nat} {a : Str} {pn : List (Addr × Obj)} {xe : Value → Shared → Prop} {W : WX} {E : XK} {tb : TE} {p1 p2 : Pos}
    (I : Inv X pins σ H s) (L : LamS X.env.scope scope) (hf : s.heap.get? f = some (PySem.W.kla_obj "<lambda>" (lamQ X) params body scope (cloFrom X.env.cells scope.names []) pm c' ctv)) (nf : H f = none) (ff : f ∉ frs X.stack)
    (hbind : bindArgs (PySem.W.kla_fn "<lambda>" (lamQ X) params body scope (cloFrom X.env.cells scope.names []) pm (.ref c') ctv) ⟨[], []⟩ = pure [])
    (tk : Takes ((cxOf CXg X.prog X.w X.K X.mg X.base Ng qg sg g cdg X.A X.stack s H Eg).tr pn xe) W) (hr : Room (k + 1) (X.A.deeper (envOfC qg sg s.heap.objs.size g cdg)))
    (hbody : ∀ (A : Around) (outer : List Env) (s : Shared) (H : Hp), Room k (A.deeper (lamEnv X scope s.heap.objs.size f c')) → PE (lamCx X A outer s H E scope f c') body tb)
    (hN : Ng[i]? = some a) (hv : Vis sg a) (hd : (a == ("__debug__" : Str)) = false := by decide) (hcd : (a == ("__classdict__" : Str)) = false := by decide) :
    PE ((cxOf CXg X.prog X.w X.K X.mg X.base Ng qg sg g cdg X.A X.stack s H Eg).tr pn xe) (.Call (.Name a p1) [] [] p2) (rAct W E i f c' (lamQ X) fun HZ Q => tb σ HZ Q) := by
  refine ⟨fun pz sz τ HZ Q IZ ⟨hW, hs, hc, ht⟩ => wpAny_Call_Name_kw (thn ((pe_var (pos := p1) (i := i) hN hv hd hcd).run pz sz τ HZ (fun v H1 => v = .ref f ∧ H1 = HZ) IZ ⟨.ref f, hs, rfl, rfl⟩) fun u s1 ⟨v, H1, I1, r1, ev, eH⟩ => ?_)⟩
  subst ev
  subst eH
  have eu : u = Value.ref f := r1
  subst eu
  have of1 := I1.base.keep f _ hf nf ff (fun z => nomatch (show f ∈ ([] : List Addr) from z))
  obtain ⟨⟨oc, vs, t, ho, h2, h3⟩, _, _⟩ := I1.hok c' _ hc
  refine PySem.W.callWith_F0 ⟨_, _, _, _, of1⟩ ?_
  have run : codeAny (model X.prog X.w) (X.A.deeper (envOfC qg sg s.heap.objs.size g cdg)) (.call (.ref f) ⟨[], []⟩) (CR (L2.CX X.prog X.w) (envOfC qg sg s.heap.objs.size g cdg :: X.stack) X.prog X.w H1 s1 Q E) s1 := by
    refine PySem.W.kla_callFunE hr.depth of1 rfl L.co L.gen rfl ⟨c', oc, vs, t, rfl, ho, h2, h3⟩ ?_
    rw [hbind]
    refine wpAny_pure (wpAny_newFunctionEnv (fun y hy => (L.own y hy).2) (fun y hy => by cases hy) (fun h₁ hns hsb => ⟨I1.nolimit.fresh _ hsb, ?_⟩) L.kind)
    show codeAny _ _ (.expr body (lamEnv X scope s1.heap.objs.size f c')) _ _
    have J : Inv (lamCx X (X.A.deeper (envOfC qg sg s.heap.objs.size g cdg)) (envOfC qg sg s.heap.objs.size g cdg :: X.stack) s1 H1 E scope f c') [] σ H1 { s1 with heap := h₁, toks := s1.toks + ([] : List (Str × Value)).length } :=
      LamX.lam_start2 I L I1.env0 hr.hd I1.base hns fun b o e => hsb.extBut b o (Nat.ne_of_lt (Heap.lt_size e)) (Heap.get?_push_of_some _ e)
    exact PySem.W.kla_codeExpr (wpAny_mono ((hbody _ _ s1 H1 (hr.deeper _)).run [] _ _ H1 Q J ht) (fun v s' ⟨w', H', J', rv, q⟩ => ⟨w', H', J'.os, J'.bare, J'.base, J'.hok, rv, q⟩) fun e s' z => z)
  refine wpAny_call (codeAny_mono run fun r s' z => ?_)
  cases r with
  | error e => exact tk e s' (XE.of_call I1 (fun cls d H' y => hW cls d H' y) z)
  | ok fl =>
    cases fl with
    | ret u => exact I1.after z
    | next => exact False.elim z
    | brk => exact False.elim z
    | cont => exact False.elim z
end
/-- the def that calls what it got by the name a -/
def GivesS (X : Cx) (Ng : List Str) (x : Str) (sg : Scope) (g : Addr) (cdg : Value) (bg : List Stmt) (a q : Str) (j : Nat) (T : (XK → Hp → VK → Prop) → Hp → VK → Prop) : Prop :=
  ∀ (f c' : Addr) (s : Shared) (H : Hp) (Q : VK) (tl : XK → Hp → VK → Prop), Room j (X.A.deeper (envOfC x sg s.heap.objs.size g cdg)) →
    (∀ (W : WX) (pn : List (Addr × Obj)) (xe : Value → Shared → Prop) (E : XK) (p1 p2 : Pos), Takes ((cxOf C8.CX0 X.prog X.w X.K X.mg X.base Ng x sg g cdg X.A X.stack s H C8.E0).tr pn xe) W →
      PE ((cxOf C8.CX0 X.prog X.w X.K X.mg X.base Ng x sg g cdg X.A X.stack s H C8.E0).tr pn xe) (.Call (.Name a p1) [] [] p2) (rAct W E 0 f c' q (tl E))) →
    H c' = some (CodeO c' q) → T tl H Q →
    ∃ t, PSs (cxOf C8.CX0 X.prog X.w X.K X.mg X.base Ng x sg g cdg X.A X.stack s H C8.E0).nox bg t ∧ t { nx := fun _ H' => Q .non H', rt := Q } (L2.start Ng [.ref f]) H
/-- x(lambda: body): T, what the def makes of the lambda's reading -/
def tLamT (P : Addr) (q : Str) (T : (XK → Hp → VK → Prop) → Hp → VK → Prop) (t : XK → TE) : TE := fun σ H Q => ∃ ps, Kt P q H H ps ∧ ∀ H1, Kn P q ps H H1 → T (fun E H' Q' => t E σ H' Q') H1 Q
section
variable {X : Cx}
theorem pe_lamT {T : (XK → Hp → VK → Prop) → Hp → VK → Prop} {x a qg : Str} {g c P : Addr} {k : Nat} {pg : Arguments} {bg : List Stmt} {sg : Scope} {dV kV doc pm cdv ct oc : Value} {an od : Option Addr} {osl : Array (Option Value)} {Ng : List Str}
    {params : Arguments} {body : Expr} {scope : Scope} {t : XK → TE} {p lpos pos : Pos} (hg : Gl X x) (hm : X.mg x = some (.ref g)) (hk : PySem.W.keepIn X.K (.ref g) = true)
    (lk : X.K.lookup g = some ⟨oc, od, .func (PySem.W.fnOf x x pg bg sg dV kV doc pm an cdv ct), osl⟩) (hcg : PySem.W.codeIn X.K cdv x = true) (hb : L2.Binds X.K (PySem.W.fnOf x x pg bg sg dV kV doc pm an cdv ct) [a] []) (Sg : FnScope Ng [a] sg) (hNg : Ng[0]? = some a) (hva : Vis sg a)
    (hG : GivesS X Ng x sg g cdv bg a (lamQ X) (k + 1) T) (TB : TabB X.base X.mg c P) (hcode : X.env.code = .ref c) (hr : Room (k + 2) X.A) (L : LamS X.env.scope scope) (hdef : defaultsOf params X.env = ([], []))
    (hbind : ∀ (q : Str) (cl : List (Str × Addr)) (pm cv ctv : Value), bindArgs (PySem.W.kla_fn "<lambda>" q params body scope cl pm cv ctv) ⟨[], []⟩ = pure [])
    (hbody : ∀ (A : Around) (outer : List Env) (s : Shared) (H : Hp) (E : XK) (f c' : Addr), Room k (A.deeper (lamEnv X scope s.heap.objs.size f c')) → PE (lamCx X A outer s H E scope f c') body (t E))
    (hdb : (x == ("__debug__" : Str)) = false := by decide) (hd : (a == ("__debug__" : Str)) = false := by decide) (hcd : (a == ("__classdict__" : Str)) = false := by decide) :
    PE X (.Call (.Name x p) [.Lambda params body scope lpos] [] pos) (tLamT P (lamQ X) T t) := by
  refine ⟨fun pins s σ H Q I ⟨ps, kt, h⟩ => wpAny_Call_Name_kw (ld_glob I hg hm (PySem.W.callWith_K (h₀ := X.base) I.ok.mod.kin hk ?_ (by rfl) (by rfl)) hdb)⟩
  show wpAny _ _ (spliced ((false, eval (.Lambda params body scope lpos) X.env) :: backTo pos (starEach [] X.env))) _ _ s
  refine Calls.spliced_cons (lam_new I TB hcode kt hdef (L.has I.ok) fun f c' pm' ctv H1 s1 I1 kn hf hfn hfr hco => Calls.spliced_nil ⟨I1.kIn, ?_⟩)
  have run : codeAny (model X.prog X.w) X.A (.call (.ref g) ⟨[.ref f], []⟩) (CR C8.CX0 X.stack X.prog X.w H1 s1 Q C8.E0) s1 :=
    LamX.run_ofS (N := Ng) (ps := [a]) (us := [.ref f]) (vs := [.ref f]) lk hcg Sg hr I1.env0 (hb s1 [.ref f] I1.kIn rfl) (.cons rfl .nil) rfl fun hr' => by
      obtain ⟨t', d', q'⟩ := hG f c' s1 H1 Q (fun E H' Q' => t E σ H' Q') hr' (fun W pn xe E p1 p2 tk => act_at (i := 0) I1 L hf hfn hfr (hbind _ _ _ _ _) tk hr' (fun A outer s H r2 => hbody A outer s H E f c' r2) hNg hva hd hcd) hco (h H1 kn)
      exact ⟨t', d'.nox, q'⟩
  refine wpAny_call (codeAny_mono run fun r s2 q => ?_)
  cases r with
  | error e => exact (show False from q).elim
  | ok fl =>
    cases fl with
    | ret u => exact I1.after q
    | next => exact False.elim q
    | brk => exact False.elim q
    | cont => exact False.elim q
end
/-! ### found = [] / try: a() except R as error: found.append(error) / return found[0] if found != [] else None -/
def tCaught (K : PySem.W.Frag) (R : Addr) : (XK → Hp → VK → Prop) → Hp → VK → Prop := fun tl H Q => ∀ p, H p = none → ∀ (E : XK) (Q' : VK),
  (∀ cls d H', PySem.W.exmOne K cls (.ref R) = some true → H' p = some (.lst []) → (∀ a H2, H' a = none → (∀ b o, b ≠ p → H' b = some o → H2 b = some o) → H2 a = some (ExT a cls d) → Q (.ref a) H2) → E cls d H') →
  (∀ v H', H' p = some (.lst []) → (∀ H2, (∀ b o, b ≠ p → H' b = some o → H2 b = some o) → Q .non H2) → Q' v H') → tl E (upd H p (.lst [])) Q'
section
variable {X : Cx} {x q nf ne rn : Str} {sg : Scope} {g R : Addr} {cdg : Value} {m j k : Nat} {p0 p1 p2 p3 p4 p5 p6 p7 p8 p9 p10 p11 p12 p13 p14 p15 p16 p17 p18 p19 p20 p21 p22 : Pos}
theorem gives_caught {a : Str} (nd : ([a, nf, ne] : List Str).Nodup) (hgr : sg.names.lookup rn = some .globalImplicit) (hmr : X.mg rn = some (.ref R)) (hdr : (rn == ("__debug__" : Str)) = false) (va : sg.names.lookup a = some .local) (vf : sg.names.lookup nf = some .local) (ve : sg.names.lookup ne = some .local)
    (hdf : (nf == ("__debug__" : Str)) = false) (hcf : (nf == ("__classdict__" : Str)) = false) (hde : (ne == ("__debug__" : Str)) = false) (hce : (ne == ("__classdict__" : Str)) = false) (hline : (p8.endLine == p10.line) = true) :
    GivesS X [a, nf, ne] x sg g cdg [.Assign [.Name nf p0] (.List [] p1) p2,
      .Try [.Expr (.Call (.Name a p3) [] [] p4) p5] [.ExceptHandler (some (.Name rn p6)) (some ne) [.Expr (.Call (.Attribute (.Name nf p7) "append" p8) [.Name ne p9] [] p10) p11] p12] [] [] p13,
      .Return (some (.IfExp (.Compare (.Name nf p14) [.NotEq] [.List [] p15] p16) (.Subscript (.Name nf p17) (.Constant (.int 0) j p18) p19) (.Constant .none k p20) p21)) p22] a q m (tCaught X.K R) := by
  intro f c' s H Q tl hr act hc h
  have un := hr.units
  refine ⟨_, pss_cons (ps_set (i := 1) nd rfl (.inl vf) (pe_lst pa_nil)) (pss_cons (ps_try_keep (i := 2) rfl rfl rfl nd rfl ve ⟨hgr, hdr, .inl hmr⟩ (tb := fun W D σ H => ∃ E : XK, tDrop (rAct W E 0 f c' q (tl E)) D σ H) ?_ (ts := fun a cls d => tDrop (tBM X.K "list" rAppend (tVar 1) (tCons (tVar 2) tNil))) ?_)
    (pss_one (ps_ret (pe_ifExp (pt_cmpR ((op_neD un).or (op_neL (Nat.lt_of_le_of_lt (Nat.le_add_right _ 64) un))) (pe_var (i := 1) rfl (.inl vf) hdf hcf) (pe_lst pa_nil) (nomark _)) (pe_ix ix_seq (pe_var (i := 1) rfl (.inl vf) hdf hcf) pe_int (fun _ _ => rfl)) pe_non)))), ?_⟩
  · intro W pn xe tk
    exact ⟨fun pins s' σ' H' D I ⟨E, h'⟩ => (pss_one (ps_expr (pos := p5) (act W pn xe E p3 p4 tk))).run pins s' σ' H' D I h'⟩
  · intro b oe cls d pn
    exact pss_one (ps_expr (pe_bm PySem.F.plainAttrs_list PySem.F.slot_list_append PySem.F.type_list_append mt_append (pe_var (i := 1) rfl (.inl vf) hdf hcf) (pa_cons (pe_var (i := 2) rfl (.inl ve) hde hce) pa_nil) (hline := hline)))
  · refine ⟨Evl.sz_of (show 0 ≤ 100000 by decide), fun p hp => ?_⟩
    refine ⟨fun cls d H' => wKeep X.K (.ref R) 2 (fun a cls d => tDrop (tBM X.K "list" rAppend (tVar 1) (tCons (tVar 2) tNil))) _ cls d [some (.ref f), some (.ref p), none] H', fun cls d H' z => z, rfl, ?_, ?_⟩
    · rw [upd_ne (ne_of_none hc hp)]
      exact hc
    · refine h p hp _ _ (fun cls d H' e1 e2 e3 => ⟨e1, fun b hb => ?_⟩) fun v H' e2 e3 => ?_
      · have npb : p ≠ b := ne_of_none e2 hb
        refine ⟨.ref p, rfl, .inl ⟨rfl, [], .inl (.inl e2)⟩, .ref b, rfl, p, [], .ref b, rfl, rfl, e2, by rw [sizeLine_eq]; decide, ?_⟩
        refine ⟨.ref p, rfl, Evl.sz_of (show 0 ≤ 100000 by decide), fun r hr => ?_⟩
        have hq : ∀ b' o, b' ≠ p → H' b' = some o → (upd (upd (upd H' p (.lst [.ref b])) b (ExT b cls d)) r (.lst [])) b' = some o := fun b' o n e => by
          have n1 : b' ≠ b := ne_of_none e hb
          have n2 : b' ≠ r := fun z => by
            rw [← z] at hr
            have e' : (upd (upd H' p (.lst [.ref b])) b (ExT b cls d)) b' = some o := by rw [upd_ne n1, upd_ne n]; exact e
            rw [show (upd (upd H' p (.lst ([] ++ [.ref b]))) b (ExT b cls d)) b' = some o from e'] at hr
            cases hr
          rw [upd_ne n2, upd_ne n1, upd_ne n]
          exact e
        have nrp : p ≠ r := fun z => by
          rw [← z, upd_ne npb, upd_same] at hr
          cases hr
        have nrb : b ≠ r := fun z => by
          rw [← z, upd_same] at hr
          cases hr
        have gp : (upd (upd (upd H' p (.lst [.ref b])) b (ExT b cls d)) r (.lst [])) p = some (.lst [.ref b]) := by rw [upd_ne nrp, upd_ne npb, upd_same]
        refine .inr ⟨p, r, [.ref b], [], rfl, rfl, .inl (.inl gp), .inl (.inl upd_same), by simp, true, rfl, ?_⟩
        exact ⟨.ref p, rfl, .inl ⟨p, [.ref b], 0, .ref b, rfl, rfl, .inl (.inl gp), rfl, e3 b _ hb hq (by rw [upd_ne nrb, upd_same])⟩⟩
      · refine ⟨.ref p, rfl, Evl.sz_of (show 0 ≤ 100000 by decide), fun r hr => ?_⟩
        have nrp : p ≠ r := ne_of_none e2 hr
        have gp : (upd H' r (.lst [])) p = some (.lst []) := by rw [upd_ne nrp]; exact e2
        refine .inl ⟨.list [], .list [], .lst (.inl (.inl gp)) .nil, .lst (.inl (.inl upd_same)) .nil, by decide +kernel, by decide +kernel, false, by simp [PyData.eqv, PyData.eqvAll], ?_⟩
        exact e3 _ fun b o n e => by rw [upd_ne (ne_of_none e hr)]; exact e
end
end DL

/-! DXd: a head's facts with the interpreter's own statics among them -/
namespace DL
open PySem He
/-- what the names reach in n steps, the statics behind -/
def asS (g : Addr → Option Obj) (n : Nat) : List Addr := asD g n ++ [cStatics]
abbrev KS (g : Addr → Option Obj) (n : Nat) : PySem.W.Frag := frT g (asS g n)
def obsS (n : Nat) (fa : List Fa) (fn : List DefD) (tf : List Defn) (ex : PySem.W.Frag → Bool) (g : Addr → Option Obj) : AlX := (obsT fa fn [] (KS g n), ex (KS g n) && tabsB g tf (KS g n))
theorem saysS_of {n : Nat} {fa : List Fa} {fn : List DefD} {tf : List Defn} {ex : PySem.W.Frag → Bool} {w : World} {h : Heap} (e : obsS n fa fn tf ex h.get? = valX fn [] w) : SaysX fa fn [] tf ex w h (KS h.get? n) := by
  have e1 : obsT fa fn [] (KS h.get? n) = valT fn [] w := congrArg (fun z : AlX => z.1) e
  have e2 : (ex (KS h.get? n) && tabsB h.get? tf (KS h.get? n)) = true := congrArg (fun z : AlX => z.2) e
  obtain ⟨h1, h2⟩ := Bool.and_eq_true_iff.mp e2
  have key : ∀ p ∈ tf, PySem.W.codeHdIn (KS h.get? n) (cT (KS h.get? n) p).1 (cT (KS h.get? n) p).2 = true ∧ ∃ o, h.get? (cT (KS h.get? n) p).2 = some o ∧ emptyTab o = true := fun p hp => by
    obtain ⟨h3, h4⟩ := Bool.and_eq_true_iff.mp (List.all_eq_true.mp h2 p hp)
    refine ⟨h3, ?_⟩
    generalize h.get? (cT (KS h.get? n) p).2 = z at h4
    cases z with
    | none => cases h4
    | some o => exact ⟨o, rfl, h4⟩
  refine ⟨e1, h1, fun p hp => (key p hp).1, fun p hp => ?_, fun p hp => ?_⟩
  · obtain ⟨_, o, q, z⟩ := key p hp
    exact frT_none q z
  · obtain ⟨_, o, q, z⟩ := key p hp
    rw [q, emptyTab_eq z]
def hookS (n : Nat) (fa : List Fa) (fn : List DefD) (tf : List Defn) (ex : PySem.W.Frag → Bool) : PySem.W.Hook where
  α := AlX
  obs := fun s => obsS n fa fn tf ex s.heap.get?
  val := fun w => valX fn [] w
  says := fun w h => ∃ K : PySem.W.Frag, K.In h ∧ SaysX fa fn [] tf ex w h K
  of := fun _ _ e => ⟨_, frT_in, saysS_of e⟩
  keeps := fun _ _ _ ⟨K, hK, c⟩ k => ⟨K, PySem.W.Frag.In.keeps hK k, ⟨c.t, c.more, c.hd, c.out, fun p hp => k _ _ (c.empty p hp)⟩⟩
theorem obsS_eq {n : Nat} {fa : List Fa} {fn : List DefD} {tf : List Defn} {ex : PySem.W.Frag → Bool} {g : Addr → Option Obj} {s : Shared} (h : ∀ a, g a = s.heap.get? a) : obsS n fa fn tf ex g = (hookS n fa fn tf ex).obs s := by
  have e : g = s.heap.get? := funext h
  rw [e] <;> rfl
end DL

/-! DL: a layer of plain data above the hand layer: what a name holds is data (PyData), a list or dict of our own, or the law's state. -/
namespace DL
open PySem PySem.Spec PyProof.Rows L2
open Evl (Ex)
open LamX (CodeO)

/-! ### data -/
mutual
inductive Dv (K : PySem.W.Frag) (G : Hp) : V → PyData → Prop
  | non : Dv K G .non .none
  | bl (b : Bool) : Dv K G (.bl b) (.bool b)
  | int (i : Int) : Dv K G (.int i) (.int i)
  | str (x : Str) : Dv K G (.str x) (.str x)
  | lst {a : Addr} {xs : List V} {ds : List PyData} : G a = some (.lst xs) → Dvs K G xs ds → Dv K G (.ref a) (.list ds)
  | tup {a : Addr} {xs : List V} {ds : List PyData} : SqT K G a xs → Dvs K G xs ds → Dv K G (.ref a) (.tuple ds)
inductive Dvs (K : PySem.W.Frag) (G : Hp) : List V → List PyData → Prop
  | nil : Dvs K G [] []
  | cons {v : V} {vs : List V} {d : PyData} {ds : List PyData} : Dv K G v d → Dvs K G vs ds → Dvs K G (v :: vs) (d :: ds)
end
section
variable {K : PySem.W.Frag} {G G' H : Hp}
mutual
theorem Dv.mono (e : Ex G G') : ∀ {v : V} {d : PyData}, Dv K G v d → Dv K G' v d
  | _, _, .non => .non
  | _, _, .bl b => .bl b
  | _, _, .int i => .int i
  | _, _, .str x => .str x
  | _, _, .lst h r => .lst (e _ _ h) (Dvs.mono e r)
  | _, _, .tup h r => .tup (Evl.ex_t e h) (Dvs.mono e r)
theorem Dvs.mono (e : Ex G G') : ∀ {vs : List V} {ds : List PyData}, Dvs K G vs ds → Dvs K G' vs ds
  | _, _, .nil => .nil
  | _, _, .cons h r => .cons (Dv.mono e h) (Dvs.mono e r)
end
mutual
theorem Dv.dp : ∀ {v : V} {d : PyData}, Dv K G v d → Dp K G v d
  | _, _, .non => .non
  | _, _, .bl b => .bl b
  | _, _, .int i => .int i
  | _, _, .str x => .str x
  | _, _, .lst h r => .lst (.inl (.inl h)) (Dvs.dp r)
  | _, _, .tup h r => .tup h (Dvs.dp r)
theorem Dvs.dp : ∀ {vs : List V} {ds : List PyData}, Dvs K G vs ds → DpAll K G vs ds
  | _, _, .nil => .nil
  | _, _, .cons h r => .cons (Dv.dp h) (Dvs.dp r)
end
theorem Dvs.length : ∀ {vs : List V} {ds : List PyData}, Dvs K G vs ds → vs.length = ds.length
  | _, _, .nil => rfl
  | _, _, .cons _ r => by rw [List.length_cons, List.length_cons, Dvs.length r]
theorem Dvs.get : ∀ {vs : List V} {ds : List PyData} {i : Nat} {v : V}, Dvs K G vs ds → vs[i]? = some v → ∃ d, ds[i]? = some d ∧ Dv K G v d
  | _, _, _, _, .nil, e => by simp at e
  | _, _, 0, _, .cons h _, e => by simp at e; subst e; exact ⟨_, rfl, h⟩
  | _, _, i + 1, v, .cons _ r, e => by
    obtain ⟨d, h1, h2⟩ := Dvs.get (i := i) (v := v) r (by simpa using e)
    exact ⟨d, by simpa using h1, h2⟩
theorem Dvs.at_ : ∀ {vs : List V} {ds : List PyData} {i : Nat} {d : PyData}, Dvs K G vs ds → ds[i]? = some d → ∃ v, vs[i]? = some v ∧ Dv K G v d
  | _, _, _, _, .nil, e => by simp at e
  | _, _, 0, _, .cons h _, e => by simp at e; subst e; exact ⟨_, rfl, h⟩
  | _, _, i + 1, d, .cons _ r, e => by
    obtain ⟨v, h1, h2⟩ := Dvs.at_ (i := i) (d := d) r (by simpa using e)
    exact ⟨v, by simpa using h1, h2⟩
theorem Dvs.append : ∀ {vs ws : List V} {ds es : List PyData}, Dvs K G vs ds → Dvs K G ws es → Dvs K G (vs ++ ws) (ds ++ es)
  | _, _, _, _, .nil, s => s
  | _, _, _, _, .cons h r, s => .cons h (Dvs.append r s)
theorem Dvs.set {v : V} {d : PyData} (h : Dv K G v d) : ∀ {vs : List V} {ds : List PyData} (i : Nat), Dvs K G vs ds → Dvs K G (vs.set i v) (ds.set i d)
  | _, _, _, .nil => .nil
  | _, _, 0, .cons _ r => .cons h r
  | _, _, i + 1, .cons q r => .cons q (Dvs.set h i r)
theorem Dvs.take : ∀ {vs : List V} {ds : List PyData} (n : Nat), Dvs K G vs ds → Dvs K G (vs.take n) (ds.take n)
  | _, _, 0, _ => by simp only [List.take_zero]; exact .nil
  | _, _, _ + 1, .nil => .nil
  | _, _, n + 1, .cons h r => .cons h (Dvs.take n r)
theorem Dvs.drop : ∀ {vs : List V} {ds : List PyData} (n : Nat), Dvs K G vs ds → Dvs K G (vs.drop n) (ds.drop n)
  | _, _, 0, r => by simp only [List.drop_zero]; exact r
  | _, _, _ + 1, .nil => .nil
  | _, _, n + 1, .cons _ r => Dvs.drop n r
theorem Dvs.reverse : ∀ {vs : List V} {ds : List PyData}, Dvs K G vs ds → Dvs K G vs.reverse ds.reverse
  | _, _, .nil => .nil
  | _, _, .cons h r => by
    rw [List.reverse_cons, List.reverse_cons]
    exact Dvs.append (Dvs.reverse r) (.cons h .nil)
theorem Dvs.replicate {v : V} {d : PyData} (h : Dv K G v d) : ∀ n : Nat, Dvs K G (List.replicate n v) (List.replicate n d)
  | 0 => .nil
  | n + 1 => .cons h (Dvs.replicate h n)
theorem Dvs.one {v : V} {d : PyData} (h : Dv K G v d) : Dvs K G [v] [d] := .cons h .nil
theorem Dv.int_inv {v : V} {i : Int} (h : Dv K G v (.int i)) : v = .int i := by cases h; rfl
theorem Dv.bool_inv {v : V} {b : Bool} (h : Dv K G v (.bool b)) : v = .bl b := by cases h; rfl
theorem Dv.str_inv {v : V} {x : Str} (h : Dv K G v (.str x)) : v = .str x := by cases h; rfl
theorem Dv.non_inv {v : V} (h : Dv K G v .none) : v = .non := by cases h; rfl
theorem Dv.list_inv {v : V} {ds : List PyData} (h : Dv K G v (.list ds)) : ∃ a xs, v = .ref a ∧ G a = some (.lst xs) ∧ Dvs K G xs ds := by
  cases h with
  | lst h r => exact ⟨_, _, rfl, h, r⟩
theorem Dv.tuple_inv {v : V} {ds : List PyData} (h : Dv K G v (.tuple ds)) : ∃ a xs, v = .ref a ∧ SqT K G a xs ∧ Dvs K G xs ds := by
  cases h with
  | tup h r => exact ⟨_, _, rfl, h, r⟩
/-- a list of ints -/
abbrev iL (ns : List Int) : List PyData := ns.map PyData.int
theorem Dvs.toInts : ∀ {vs : List V} {ns : List Int}, Dvs K G vs (iL ns) → vs = ns.map V.int
  | _, [], h => by cases h; rfl
  | _, n :: ns, h => by
    cases h with
    | cons h r => rw [Dv.int_inv h, Dvs.toInts r]; rfl
theorem Dvs.of_ints : ∀ ns : List Int, Dvs K G (ns.map V.int) (iL ns)
  | [] => .nil
  | n :: ns => .cons (.int n) (Dvs.of_ints ns)
theorem Dvs.bools : ∀ {vs : List V} {bs : List Bool}, Dvs K G vs (bs.map PyData.bool) → vs = bs.map V.bl
  | _, [], h => by cases h; rfl
  | _, n :: ns, h => by
    cases h with
    | cons h r => rw [Dv.bool_inv h, Dvs.bools r]; rfl
end

/-! ### what a name holds -/
inductive C where
  /-- nothing that is known -/
  | no
  /-- data, never changed from now on -/
  | d (x : PyData)
  /-- a list, a dict of our own -/
  | l (xs : List PyData)
  | k (kvs : List (Key × PyData))
  /-- the law's state, its dict at a -/
  | s (a : Addr)
  /-- the script -/
  | scr (ns : List Int)
  /-- a def, held by its address -/
  | v (f : Addr)
  /-- the script, and the table of code objects at P, whose lambdas bear the name q -/
  | w (ns : List Int) (P : Addr) (q : Str)
  /-- an error that was caught: its class, its own fields -/
  | e (D : Addr) (fs : List (Str × V))
abbrev Env := List C
inductive Dks (K : PySem.W.Frag) (G : Hp) : List (Key × V) → List (Key × PyData) → Prop
  | nil : Dks K G [] []
  | cons {k : Key} {v : V} {us : List (Key × V)} {d : PyData} {ds : List (Key × PyData)} : Dv K G v d → Dks K G us ds → Dks K G ((k, v) :: us) ((k, d) :: ds)
theorem Dks.mono {K : PySem.W.Frag} {G G' : Hp} (e : Ex G G') : ∀ {us : List (Key × V)} {ds : List (Key × PyData)}, Dks K G us ds → Dks K G' us ds
  | _, _, .nil => .nil
  | _, _, .cons h r => .cons (h.mono e) (Dks.mono e r)
/-- the law's state: its dict at a, the list of great cells at g -/
def stD (g c : Addr) (r t : Int) : HO := .dK [(.inr "great", .ref g), (.inr "cells", .ref c), (.inr "rest", .int r), (.inr "turn", .int t)]
def StOk (K : PySem.W.Frag) (bu : Nat) (G H : Hp) (a g : Addr) : Prop := ∃ (c : Addr) (gs cs : List Int) (r t : Int), H a = some (stD g c r t) ∧ H g = some (.lst (gs.map V.int)) ∧ G c = some (.lst (cs.map V.int)) ∧
  (∀ x ∈ gs, 0 ≤ x) ∧ (∀ x ∈ cs, 0 ≤ x) ∧ 0 ≤ r ∧ 0 ≤ t ∧ gs.length ≤ 1000 ∧ cs.length ≤ 1000 ∧ t + bu ≤ 2 ^ 46
/-- an error's own dict -/
def XdOk (G : Hp) (d : Option Addr) (fs : List (Str × V)) : Prop := match d with
  | none => fs = []
  | some dd => G dd = some (.xd fs)
theorem XdOk.mono {G G' : Hp} {d : Option Addr} {fs : List (Str × V)} (h : XdOk G d fs) (e : Ex G G') : XdOk G' d fs := by
  cases d with
  | none => exact h
  | some dd => exact e _ _ h
def CellOk (K : PySem.W.Frag) (bu : Nat) (G H : Hp) (v : Option V) : C → List Addr → Prop
  | .no, fp => fp = []
  | .d x, fp => fp = [] ∧ ∃ u, v = some u ∧ Dv K G u x
  | .l xs, fp => ∃ a us, fp = [a] ∧ v = some (.ref a) ∧ H a = some (.lst us) ∧ Dvs K G us xs
  | .k kvs, fp => ∃ a us, fp = [a] ∧ v = some (.ref a) ∧ H a = some (.dK us) ∧ Dks K G us kvs
  | .s a, fp => ∃ g, fp = [a, g] ∧ v = some (.ref a) ∧ StOk K bu G H a g
  | .scr ns, fp => fp = [] ∧ ∃ a, v = some (.ref a) ∧ SqL K G a (ns.map V.int)
  | .v f, fp => fp = [] ∧ v = some (.ref f)
  | .w ns P q, fp => ∃ a ps, fp = [P] ∧ v = some (.ref a) ∧ SqL K G a (ns.map V.int) ∧ Kt P q G H ps
  | .e D fs, fp => fp = [] ∧ ∃ a d, v = some (.ref a) ∧ G a = some (ExT a (.ref D) d) ∧ XdOk G d fs
inductive Cells (K : PySem.W.Frag) (bu : Nat) (G H : Hp) : List (Option V) → Env → List (List Addr) → Prop
  | nil : Cells K bu G H [] [] []
  | cons {v : Option V} {vs : List (Option V)} {c : C} {cs : Env} {fp : List Addr} {fps : List (List Addr)} : CellOk K bu G H v c fp → Cells K bu G H vs cs fps → Cells K bu G H (v :: vs) (c :: cs) (fp :: fps)
section
variable {bu : Nat} {K : PySem.W.Frag} {G G' H H' R R' : Hp} {σ : L2.St} {E : Env} {fps : List (List Addr)} {v : Option V} {c : C} {fp : List Addr}
/-- what is owned stands in the heap -/
theorem CellOk.there (h : CellOk K bu G H v c fp) : ∀ a ∈ fp, ∃ o, H a = some o := by
  cases c with
  | no => intro a ha; rw [show fp = [] from h] at ha; cases ha
  | d x => intro a ha; rw [h.1] at ha; cases ha
  | l xs =>
    obtain ⟨b, us, rfl, _, e, _⟩ := h
    intro a ha
    rw [List.mem_singleton.mp ha]
    exact ⟨_, e⟩
  | k xs =>
    obtain ⟨b, us, rfl, _, e, _⟩ := h
    intro a ha
    rw [List.mem_singleton.mp ha]
    exact ⟨_, e⟩
  | s b =>
    obtain ⟨g, rfl, _, c, gs, cs, r, t, e, e2, _⟩ := h
    intro a ha
    rcases List.mem_cons.mp ha with rfl | ha
    · exact ⟨_, e⟩
    · rw [List.mem_singleton.mp ha]
      exact ⟨_, e2⟩
  | scr ns => intro a ha; rw [h.1] at ha; cases ha
  | v f => intro a ha; rw [h.1] at ha; cases ha
  | w ns P q =>
    obtain ⟨b, ps, rfl, _, _, k⟩ := h
    intro a ha
    rw [List.mem_singleton.mp ha]
    exact ⟨_, k.at_⟩
  | e D fs => intro a ha; rw [h.1] at ha; cases ha
theorem CellOk.mono (h : CellOk K bu G H v c fp) (eg : Ex G G') (eh : ∀ a ∈ fp, H' a = H a) : CellOk K bu G' H' v c fp := by
  cases c with
  | no => exact h
  | d x => exact ⟨h.1, let ⟨u, e, r⟩ := h.2; ⟨u, e, r.mono eg⟩⟩
  | l xs =>
    obtain ⟨b, us, rfl, e1, e, r⟩ := h
    exact ⟨b, us, rfl, e1, by rw [eh b (List.mem_singleton.mpr rfl)]; exact e, r.mono eg⟩
  | k xs =>
    obtain ⟨b, us, rfl, e1, e, r⟩ := h
    exact ⟨b, us, rfl, e1, by rw [eh b (List.mem_singleton.mpr rfl)]; exact e, r.mono eg⟩
  | s b =>
    obtain ⟨g, rfl, e1, c, gs, cs, r, t, e, e2, e3, rest⟩ := h
    exact ⟨g, rfl, e1, c, gs, cs, r, t, by rw [eh b (by simp)]; exact e, by rw [eh g (by simp)]; exact e2, eg _ _ e3, rest⟩
  | scr ns => exact ⟨h.1, let ⟨u, e, r⟩ := h.2; ⟨u, e, Evl.ex_l eg r⟩⟩
  | v f => exact h
  | w ns P q =>
    obtain ⟨b, ps, rfl, e1, r, k⟩ := h
    exact ⟨b, ps, rfl, e1, Evl.ex_l eg r, ⟨by rw [eh P (List.mem_singleton.mpr rfl)]; exact k.at_, k.tri, fun pos cv z => let ⟨c, e, q⟩ := k.cod pos cv z; ⟨c, e, eg _ _ q⟩⟩⟩
  | e D fs => exact ⟨h.1, let ⟨a, d, e1, e2, e3⟩ := h.2; ⟨a, d, e1, eg _ _ e2, e3.mono eg⟩⟩
theorem Cells.there : ∀ {σ : L2.St} {E : Env} {fps : List (List Addr)}, Cells K bu G H σ E fps → ∀ a ∈ fps.flatten, ∃ o, H a = some o
  | _, _, _, .nil, a, ha => by cases ha
  | _, _, _, .cons h r, a, ha => by
    rw [List.flatten_cons] at ha
    rcases List.mem_append.mp ha with ha | ha
    · exact h.there a ha
    · exact Cells.there r a ha
theorem Cells.mono (eg : Ex G G') : ∀ {σ : L2.St} {E : Env} {fps : List (List Addr)}, Cells K bu G H σ E fps → (∀ a ∈ fps.flatten, H' a = H a) → Cells K bu G' H' σ E fps
  | _, _, _, .nil, _ => .nil
  | _, _, _, .cons h r, eh => .cons (h.mono eg fun a ha => eh a (by rw [List.flatten_cons]; exact List.mem_append_left _ ha)) (Cells.mono eg r fun a ha => eh a (by rw [List.flatten_cons]; exact List.mem_append_right _ ha))
theorem Cells.get : ∀ {σ : L2.St} {E : Env} {fps : List (List Addr)} {i : Nat} {c : C}, Cells K bu G H σ E fps → E[i]? = some c → ∃ v fp, σ[i]? = some v ∧ fps[i]? = some fp ∧ CellOk K bu G H v c fp
  | _, _, _, _, _, .nil, e => by simp at e
  | _, _, _, 0, _, .cons h _, e => by simp at e; subst e; exact ⟨_, _, rfl, rfl, h⟩
  | _, _, _, i + 1, c, .cons _ r, e => by
    obtain ⟨v, fp, h1, h2, h3⟩ := Cells.get (i := i) (c := c) r (by simpa using e)
    exact ⟨v, fp, by simpa using h1, by simpa using h2, h3⟩
theorem Cells.set (h : CellOk K bu G H v c fp) : ∀ {σ : L2.St} {E : Env} {fps : List (List Addr)} (i : Nat), Cells K bu G H σ E fps → Cells K bu G H (σ.set i v) (E.set i c) (fps.set i fp)
  | _, _, _, _, .nil => .nil
  | _, _, _, 0, .cons _ r => .cons h r
  | _, _, _, i + 1, .cons q r => .cons q (Cells.set h i r)
theorem Cells.len : ∀ {σ : L2.St} {E : Env} {fps : List (List Addr)}, Cells K bu G H σ E fps → σ.length = E.length ∧ fps.length = E.length
  | _, _, _, .nil => ⟨rfl, rfl⟩
  | _, _, _, .cons _ r => ⟨congrArg (· + 1) (Cells.len r).1, congrArg (· + 1) (Cells.len r).2⟩
end
theorem mem_flat {α : Type} {ls : List (List α)} {i : Nat} {l : List α} {a : α} (h : ls[i]? = some l) (ha : a ∈ l) : a ∈ ls.flatten :=
  List.mem_flatten.mpr ⟨l, List.mem_of_getElem? h, ha⟩
theorem flat_set_sub {α : Type} : ∀ (ls : List (List α)) (i : Nat), ((ls.set i []).flatten).Sublist ls.flatten
  | [], _ => List.Sublist.refl _
  | l :: ls, 0 => by
    show (([] : List α) ++ ls.flatten).Sublist (l ++ ls.flatten)
    exact List.sublist_append_right l ls.flatten
  | l :: ls, i + 1 => by
    show (l ++ (ls.set i []).flatten).Sublist (l ++ ls.flatten)
    exact List.Sublist.append (List.Sublist.refl l) (flat_set_sub ls i)
/-- taking out one part, putting another in -/
theorem flat_set_mem {α : Type} {a : α} {l' : List α} : ∀ {ls : List (List α)} {i : Nat}, a ∈ (ls.set i l').flatten → a ∈ l' ∨ a ∈ (ls.set i []).flatten
  | [], _, h => by cases h
  | l :: ls, 0, h => by
    have h' : a ∈ l' ++ ls.flatten := h
    rcases List.mem_append.mp h' with h | h
    · exact .inl h
    · exact .inr (show a ∈ ([] : List α) ++ ls.flatten from h)
  | l :: ls, i + 1, h => by
    have h' : a ∈ l ++ (ls.set i l').flatten := h
    rcases List.mem_append.mp h' with h | h
    · exact .inr (show a ∈ l ++ (ls.set i []).flatten from List.mem_append_left _ h)
    · rcases flat_set_mem h with h | h
      · exact .inl h
      · exact .inr (show a ∈ l ++ (ls.set i []).flatten from List.mem_append_right _ h)
theorem nodup_set {α : Type} {l' : List α} : ∀ {ls : List (List α)} {i : Nat}, ls.flatten.Nodup → l'.Nodup → (∀ a ∈ l', a ∉ (ls.set i []).flatten) → ((ls.set i l').flatten).Nodup
  | [], _, h, _, _ => h
  | l :: ls, 0, h, h', d => by
    show (l' ++ ls.flatten).Nodup
    have h2 : (l ++ ls.flatten).Nodup := h
    refine List.nodup_append.mpr ⟨h', (List.nodup_append.mp h2).2.1, fun a ha b hb e => ?_⟩
    subst e
    exact d a ha (show a ∈ ([] : List α) ++ ls.flatten from hb)
  | l :: ls, i + 1, h, h', d => by
    show (l ++ (ls.set i l').flatten).Nodup
    have h2 : (l ++ ls.flatten).Nodup := h
    obtain ⟨n1, n2, n3⟩ := List.nodup_append.mp h2
    refine List.nodup_append.mpr ⟨n1, nodup_set n2 h' fun a ha hb => d a ha (show a ∈ l ++ (ls.set i []).flatten from List.mem_append_right _ hb), fun a ha b hb e => ?_⟩
    subst e
    rcases flat_set_mem hb with hb | hb
    · exact d a hb (show a ∈ l ++ (ls.set i []).flatten from List.mem_append_left _ ha)
    · exact n3 a ha a ((flat_set_sub ls i).subset hb) rfl
theorem not_mem_set {α : Type} {a : α} {l : List α} : ∀ {ls : List (List α)} {i : Nat}, ls.flatten.Nodup → ls[i]? = some l → a ∈ l → a ∉ (ls.set i []).flatten
  | [], _, _, h, _ => by simp at h
  | l0 :: ls, 0, h, e, ha => by
    simp at e
    subst e
    have h2 : (l0 ++ ls.flatten).Nodup := h
    intro hb
    have hb' : a ∈ ([] : List α) ++ ls.flatten := hb
    exact (List.nodup_append.mp h2).2.2 a ha a hb' rfl
  | l0 :: ls, i + 1, h, e, ha => by
    have h2 : (l0 ++ ls.flatten).Nodup := h
    obtain ⟨n1, n2, n3⟩ := List.nodup_append.mp h2
    have e' : ls[i]? = some l := by simpa using e
    intro hb
    have hb' : a ∈ l0 ++ (ls.set i []).flatten := hb
    rcases List.mem_append.mp hb' with hb | hb
    · exact n3 a hb a (mem_flat e' ha) rfl
    · exact not_mem_set n2 e' ha hb

/-! ### names, heap, data -/
/-- G: what is never changed; R: what others hold; E: what the names hold -/
structure Rel (K : PySem.W.Frag) (bu : Nat) (σ : L2.St) (H G R : Hp) (E : Env) : Prop where
  gh : Ex G H
  rh : Ex R H
  fps : ∃ fps : List (List Addr), Cells K bu G H σ E fps ∧ fps.flatten.Nodup ∧ ∀ a ∈ fps.flatten, G a = none ∧ R a = none
/-- G grows, apart from what others hold -/
def Le (R G G' : Hp) : Prop := Ex G G' ∧ ∀ a, R a ≠ none → G' a = G a
theorem Le.refl (R G : Hp) : Le R G G := ⟨Ex.refl G, fun _ _ => rfl⟩
theorem Le.trans {R G G1 G2 : Hp} (a : Le R G G1) (b : Le R G1 G2) : Le R G G2 := ⟨a.1.trans b.1, fun x h => (b.2 x h).trans (a.2 x h)⟩
theorem Le.less {R R' G G' : Hp} (e : Ex R R') (a : Le R' G G') : Le R G G' := ⟨a.1, fun x h => a.2 x fun z => by
  cases q : R x with
  | none => exact h q
  | some o => rw [e x o q] at z; cases z⟩
theorem Le.new {R G : Hp} {p : Addr} {o : HO} (h : G p = none) (hr : R p = none) : Le R G (upd G p o) := ⟨Ex.new h, fun a ha => upd_ne fun e => by rw [e] at ha; exact ha hr⟩
theorem ex_none {R H : Hp} {p : Addr} (e : Ex R H) (h : H p = none) : R p = none := by
  cases q : R p with
  | none => rfl
  | some o => rw [e p o q] at h; cases h
/-- new objects alone -/
structure Grow (G H G' H' : Hp) : Prop where
  g : Ex G G'
  h : Ex H H'
  gh : Ex G' H'
  new : ∀ a, H a ≠ none → G' a = G a
theorem Grow.refl {G H : Hp} (e : Ex G H) : Grow G H G H := ⟨Ex.refl G, Ex.refl H, e, fun _ _ => rfl⟩
theorem Grow.trans {G H G1 H1 G2 H2 : Hp} (a : Grow G H G1 H1) (b : Grow G1 H1 G2 H2) : Grow G H G2 H2 := ⟨a.g.trans b.g, a.h.trans b.h, b.gh, fun x hx => by
  rw [b.new x, a.new x hx]
  intro z
  cases q : H x with
  | none => exact hx q
  | some o => rw [a.h x o q] at z; cases z⟩
theorem Grow.le {R G H G' H' : Hp} (a : Grow G H G' H') (e : Ex R H) : Le R G G' := ⟨a.g, fun x hx => a.new x fun z => hx (ex_none e z)⟩
/-- a new object that is frozen at once -/
theorem Grow.one {G H : Hp} {p : Addr} {o : HO} (e : Ex G H) (h : H p = none) : Grow G H (upd G p o) (upd H p o) := ⟨Ex.new (ex_none e h), Ex.new h, fun a u q => by
  by_cases z : a = p
  · rw [z] at q ⊢
    rw [upd_same] at q ⊢
    exact q
  · rw [upd_ne z] at q ⊢
    exact e a u q, fun a ha => upd_ne fun z => ha (by rw [z]; exact h)⟩
/-- a new object that is left open -/
theorem Grow.open_ {G H : Hp} {p : Addr} {o : HO} (e : Ex G H) (h : H p = none) : Grow G H G (upd H p o) := ⟨Ex.refl G, Ex.new h, e.trans (Ex.new h), fun _ _ => rfl⟩
section
variable {bu : Nat} {K : PySem.W.Frag} {σ : L2.St} {H G R H' G' R' : Hp} {E : Env}
theorem StOk.dn {b b' : Nat} {a g : Addr} (h : StOk K b G H a g) (e : b' ≤ b) : StOk K b' G H a g := by
  obtain ⟨c, gs, cs, r, t, e1, e2, e3, e4, e5, e6, e7, e8, e9, e10⟩ := h
  exact ⟨c, gs, cs, r, t, e1, e2, e3, e4, e5, e6, e7, e8, e9, by omega⟩
theorem CellOk.dn {b b' : Nat} {v : Option V} {c : C} {fp : List Addr} (h : CellOk K b G H v c fp) (e : b' ≤ b) : CellOk K b' G H v c fp := by
  cases c with
  | s a =>
    obtain ⟨g, e1, e2, e3⟩ := h
    exact ⟨g, e1, e2, e3.dn e⟩
  | no => exact h
  | d x => exact h
  | l xs => exact h
  | k xs => exact h
  | scr ns => exact h
  | v f => exact h
  | w ns P q => exact h
  | e D fs => exact h
theorem Cells.dn {b b' : Nat} (e : b' ≤ b) : ∀ {σ : L2.St} {E : Env} {fps : List (List Addr)}, Cells K b G H σ E fps → Cells K b' G H σ E fps
  | _, _, _, .nil => .nil
  | _, _, _, .cons h r => .cons (h.dn e) (Cells.dn e r)
theorem Rel.dn {b b' : Nat} (r : Rel K b σ H G R E) (e : b' ≤ b) : Rel K b' σ H G R E := by
  obtain ⟨fps, c, n, d⟩ := r.fps
  exact ⟨r.gh, r.rh, fps, c.dn e, n, d⟩
theorem Rel.grow (r : Rel K bu σ H G R E) (g : Grow G H G' H') : Rel K bu σ H' G' R E := by
  obtain ⟨fps, c, n, d⟩ := r.fps
  refine ⟨g.gh, r.rh.trans g.h, fps, c.mono g.g fun a ha => ?_, n, fun a ha => ⟨?_, (d a ha).2⟩⟩
  · obtain ⟨o, e⟩ := c.there a ha
    rw [e, g.h a o e]
  · obtain ⟨o, e⟩ := c.there a ha
    rw [g.new a (by rw [e]; intro z; cases z)]
    exact (d a ha).1
theorem Rel.less (r : Rel K bu σ H G R' E) (e : Ex R R') : Rel K bu σ H G R E := by
  obtain ⟨fps, c, n, d⟩ := r.fps
  exact ⟨r.gh, e.trans r.rh, fps, c, n, fun a ha => ⟨(d a ha).1, ex_none e (d a ha).2⟩⟩
/-- a new object, held from outside -/
theorem Rel.hold {p : Addr} {o : HO} (r : Rel K bu σ H G R E) (h : H p = none) : Rel K bu σ (upd H p o) G (upd R p o) E := by
  have q := r.grow (Grow.open_ (o := o) r.gh h)
  obtain ⟨fps, c, n, d⟩ := q.fps
  obtain ⟨fps0, c0, n0, d0⟩ := r.fps
  refine ⟨q.gh, fun a u e => ?_, fps0, c0.mono (Ex.refl G) fun a ha => ?_, n0, fun a ha => ⟨(d0 a ha).1, ?_⟩⟩
  · by_cases z : a = p
    · rw [z] at e ⊢
      rw [upd_same] at e ⊢
      exact e
    · rw [upd_ne z] at e ⊢
      exact r.rh a u e
  · obtain ⟨u, e⟩ := c0.there a ha
    rw [upd_ne]
    intro z
    rw [z, h] at e
    cases e
  · obtain ⟨u, e⟩ := c0.there a ha
    rw [upd_ne]
    · exact (d0 a ha).2
    · intro z
      rw [z, h] at e
      cases e
/-- what is held from outside changes, from outside -/
theorem Rel.held {p : Addr} {o u : HO} (r : Rel K bu σ H G R E) (hp : R p = some u) (hg : G p = none) : Rel K bu σ (upd H p o) G (upd R p o) E := by
  obtain ⟨fps, c, n, d⟩ := r.fps
  have ne : ∀ a ∈ fps.flatten, a ≠ p := fun a ha z => by
    have q := (d a ha).2
    rw [z, hp] at q
    cases q
  refine ⟨fun a w e => ?_, fun a w e => ?_, fps, c.mono (Ex.refl G) fun a ha => upd_ne (ne a ha), n, fun a ha => ⟨(d a ha).1, ?_⟩⟩
  · have z : a ≠ p := fun z => by rw [z, hg] at e; cases e
    rw [upd_ne z]
    exact r.gh a w e
  · by_cases z : a = p
    · rw [z] at e ⊢
      rw [upd_same] at e ⊢
      exact e
    · rw [upd_ne z] at e ⊢
      exact r.rh a w e
  · rw [upd_ne (ne a ha)]
    exact (d a ha).2
/-- .. and is frozen -/
theorem Rel.freezeR {p : Addr} {o : HO} (r : Rel K bu σ H G (upd R p o) E) (hp : H p = some o) (hr : R p = none) (hg : G p = none) : Rel K bu σ H (upd G p o) R E := by
  obtain ⟨fps, c, n, d⟩ := r.fps
  have eg : Ex G (upd G p o) := Ex.new hg
  refine ⟨fun a u e => ?_, fun a u e => r.rh a u ?_, fps, c.mono eg fun a ha => rfl, n, fun a ha => ?_⟩
  · by_cases z : a = p
    · rw [z] at e ⊢
      rw [upd_same] at e
      rw [hp]
      exact e
    · rw [upd_ne z] at e
      exact r.gh a u e
  · have z : a ≠ p := fun z => by rw [z, hr] at e; cases e
    rw [upd_ne z]
    exact e
  · have z : a ≠ p := fun z => by
      have q := (d a ha).2
      rw [z, upd_same] at q
      cases q
    have q := d a ha
    rw [upd_ne z] at q
    rw [upd_ne z]
    exact q
theorem Rel.get {i : Nat} {c : C} (r : Rel K bu σ H G R E) (h : E[i]? = some c) : ∃ v fp, σ[i]? = some v ∧ CellOk K bu G H v c fp := by
  obtain ⟨fps, cs, _, _⟩ := r.fps
  obtain ⟨v, fp, h1, _, h3⟩ := cs.get h
  exact ⟨v, fp, h1, h3⟩
theorem Rel.dat {i : Nat} {x : PyData} (r : Rel K bu σ H G R E) (h : E[i]? = some (.d x)) : ∃ v, σ[i]? = some (some v) ∧ Dv K G v x := by
  obtain ⟨v, fp, h1, _, u, e, q⟩ := r.get h
  subst e
  exact ⟨u, h1, q⟩
theorem Rel.lst {i : Nat} {xs : List PyData} (r : Rel K bu σ H G R E) (h : E[i]? = some (.l xs)) : ∃ a us, σ[i]? = some (some (.ref a)) ∧ H a = some (.lst us) ∧ Dvs K G us xs := by
  obtain ⟨v, fp, h1, a, us, _, e, q, q2⟩ := r.get h
  subst e
  exact ⟨a, us, h1, q, q2⟩
theorem Rel.script {i : Nat} {ns : List Int} (r : Rel K bu σ H G R E) (h : E[i]? = some (.scr ns)) : ∃ a, σ[i]? = some (some (.ref a)) ∧ SqL K H a (ns.map V.int) := by
  obtain ⟨v, fp, h1, _, a, e, q⟩ := r.get h
  subst e
  exact ⟨a, h1, Evl.ex_l r.gh q⟩
/-- a name gets data -/
theorem Rel.set {i : Nat} {v : V} {x : PyData} (r : Rel K bu σ H G R E) (h : Dv K G v x) : Rel K bu (σ.set i (some v)) H G R (E.set i (.d x)) := by
  obtain ⟨fps, c, n, d⟩ := r.fps
  exact ⟨r.gh, r.rh, fps.set i [], c.set (fp := []) (v := some v) (c := .d x) ⟨rfl, v, rfl, h⟩ i, n.sublist (flat_set_sub fps i), fun a ha => d a ((flat_set_sub fps i).subset ha)⟩
/-- .. is forgotten -/
theorem Rel.forget {i : Nat} {v : Option V} (r : Rel K bu σ H G R E) : Rel K bu (σ.set i v) H G R (E.set i .no) := by
  obtain ⟨fps, c, n, d⟩ := r.fps
  exact ⟨r.gh, r.rh, fps.set i [], c.set (fp := []) (v := v) (c := .no) rfl i, n.sublist (flat_set_sub fps i), fun a ha => d a ((flat_set_sub fps i).subset ha)⟩
theorem set_self {α : Type} : ∀ {l : List α} {i : Nat} {x : α}, l[i]? = some x → l.set i x = l
  | [], _, _, h => by simp at h
  | a :: l, 0, x, h => by simp at h; subst h; rfl
  | a :: l, i + 1, x, h => by
    show a :: l.set i x = a :: l
    rw [set_self (by simpa using h)]
/-- a name gets a new list of its own -/
theorem Rel.setNew {i : Nat} {p : Addr} {us : List V} {xs : List PyData} (r : Rel K bu σ H G (upd R p (.lst us)) E) (hr : R p = none) (hg : G p = none) (h : Dvs K G us xs) : Rel K bu (σ.set i (some (.ref p))) H G R (E.set i (.l xs)) := by
  obtain ⟨fps, c, n, d⟩ := r.fps
  have hp : H p = some (.lst us) := r.rh p _ upd_same
  have ne : ∀ a ∈ fps.flatten, a ≠ p := fun a ha z => by
    have q := (d a ha).2
    rw [z, upd_same] at q
    cases q
  refine ⟨r.gh, fun a u e => r.rh a u ?_, fps.set i [p], c.set (fp := [p]) (v := some (.ref p)) (c := .l xs) ⟨p, us, rfl, rfl, hp, h⟩ i, nodup_set n (by simp) fun a ha hb => ?_, fun a ha => ?_⟩
  · rw [upd_ne]
    · exact e
    · intro z
      rw [z, hr] at e
      cases e
  · exact ne a ((flat_set_sub fps i).subset hb) (List.mem_singleton.mp ha)
  · rcases flat_set_mem ha with ha | ha
    · rw [List.mem_singleton.mp ha]
      exact ⟨hg, hr⟩
    · have q := d a ((flat_set_sub fps i).subset ha)
      rw [upd_ne (ne a ((flat_set_sub fps i).subset ha))] at q
      exact q
/-- a list of our own changes -/
theorem Rel.putL {i : Nat} {a : Addr} {us : List V} {xs ys : List PyData} (r : Rel K bu σ H G R E) (h : E[i]? = some (.l xs)) (hσ : σ[i]? = some (some (.ref a))) (q : Dvs K G us ys) : Rel K bu σ (upd H a (.lst us)) G R (E.set i (.l ys)) := by
  obtain ⟨fps, c, n, d⟩ := r.fps
  obtain ⟨v, fp, h1, h2, b, ws, rfl, e, hb, hw⟩ := c.get h
  subst e
  rw [hσ] at h1
  cases h1
  have ha := d a (mem_flat h2 (List.mem_singleton.mpr rfl))
  have na := not_mem_set n h2 (List.mem_singleton.mpr rfl)
  have c' : Cells K bu G (upd H a (.lst us)) σ (E.set i .no) (fps.set i []) := by
    have z := c.set (fp := []) (v := some (.ref a)) (c := .no) rfl i
    rw [set_self hσ] at z
    exact z.mono (Ex.refl G) fun b hb => upd_ne fun e => na (by rw [← e]; exact hb)
  have c2 := c'.set (fp := [a]) (v := some (.ref a)) (c := .l ys) ⟨a, us, rfl, rfl, upd_same, q⟩ i
  rw [set_self hσ, List.set_set, List.set_set, set_self h2] at c2
  refine ⟨fun b u e => ?_, fun b u e => ?_, fps, c2, n, d⟩
  · rw [upd_ne]
    · exact r.gh b u e
    · intro z
      rw [z, ha.1] at e
      cases e
  · rw [upd_ne]
    · exact r.rh b u e
    · intro z
      rw [z, ha.2] at e
      cases e
/-- .. is frozen -/
theorem Rel.freeze {i : Nat} {xs : List PyData} (r : Rel K bu σ H G R E) (h : E[i]? = some (.l xs)) : ∃ G', Le R G G' ∧ Rel K bu σ H G' R (E.set i (.d (.list xs))) := by
  obtain ⟨fps, c, n, d⟩ := r.fps
  obtain ⟨v, fp, h1, h2, b, ws, rfl, e, hb, hw⟩ := c.get h
  subst e
  have ha := d b (mem_flat h2 (List.mem_singleton.mpr rfl))
  have na := not_mem_set n h2 (List.mem_singleton.mpr rfl)
  refine ⟨upd G b (.lst ws), Le.new ha.1 ha.2, fun a u e => ?_, r.rh, fps.set i [], ?_, n.sublist (flat_set_sub fps i), fun a z => ?_⟩
  · by_cases z : a = b
    · rw [z, upd_same] at e
      rw [z, hb]
      exact e
    · rw [upd_ne z] at e
      exact r.gh a u e
  · have eg : Ex G (upd G b (.lst ws)) := Ex.new ha.1
    have z := (c.mono eg fun _ _ => rfl).set (fp := []) (v := some (.ref b)) (c := .d (.list xs)) ⟨rfl, _, rfl, .lst upd_same (hw.mono eg)⟩ i
    rw [set_self h1] at z
    exact z
  · have q := d a ((flat_set_sub fps i).subset z)
    rw [upd_ne (fun e => na (by rw [← e]; exact z))]
    exact q
/-- the script of such a name -/
theorem Rel.scriptW {i : Nat} {ns : List Int} {P : Addr} {q : Str} (r : Rel K bu σ H G R E) (h : E[i]? = some (.w ns P q)) : ∃ a, σ[i]? = some (some (.ref a)) ∧ SqL K H a (ns.map V.int) := by
  obtain ⟨v, fp, h1, a, ps, _, e, r2, _⟩ := r.get h
  subst e
  exact ⟨a, h1, Evl.ex_l r.gh r2⟩
/-- a caught error -/
theorem Rel.err {i : Nat} {D : Addr} {fs : List (Str × V)} (r : Rel K bu σ H G R E) (h : E[i]? = some (.e D fs)) : ∃ a d, σ[i]? = some (some (.ref a)) ∧ G a = some (ExT a (.ref D) d) ∧ XdOk G d fs := by
  obtain ⟨v, fp, h1, _, a, d, e, e2, e3⟩ := r.get h
  subst e
  exact ⟨a, d, h1, e2, e3⟩
theorem Rel.setE {i : Nat} {a D : Addr} {d : Option Addr} {fs : List (Str × V)} (r : Rel K bu σ H G R E) (h : G a = some (ExT a (.ref D) d)) (hx : XdOk G d fs) : Rel K bu (σ.set i (some (.ref a))) H G R (E.set i (.e D fs)) := by
  obtain ⟨fps, c, n, d⟩ := r.fps
  exact ⟨r.gh, r.rh, fps.set i [], c.set (fp := []) (v := some (.ref a)) (c := .e D fs) ⟨rfl, a, _, rfl, h, hx⟩ i, n.sublist (flat_set_sub fps i), fun a ha => d a ((flat_set_sub fps i).subset ha)⟩
/-- a lambda was made by the law -/
theorem Rel.lam {i : Nat} {ns : List Int} {P : Addr} {q : Str} {ps : Array Value} {H1 : Hp} (r : Rel K bu σ H G R E) (h : E[i]? = some (.w ns P q)) (k : Kt P q H H ps) (kn : Kn P q ps H H1) : ∃ G1, Le R G G1 ∧ Rel K bu σ H1 G1 R E := by
  rcases kn with rfl | ⟨c, more, nc, tri, cod, rfl⟩
  · exact ⟨G, Le.refl R G, r⟩
  · obtain ⟨fps, cs, n, d⟩ := r.fps
    obtain ⟨v, fp, hσ, h2, a, ps', rfl, e1, e2, k'⟩ := cs.get h
    have eps : ps' = ps := by
      have z := k'.at_
      rw [k.at_] at z
      injection z with z
      injection z with z
      exact z.symm
    subst eps
    have dP := d P (mem_flat h2 (List.mem_singleton.mpr rfl))
    have nP := not_mem_set n h2 (List.mem_singleton.mpr rfl)
    have gc := ex_none r.gh nc
    have rc := ex_none r.rh nc
    have eg : Ex G (upd G c (CodeO c q)) := Ex.new gc
    have npc : P ≠ c := fun z => by
      have q := k.at_
      rw [z, nc] at q
      cases q
    have keepH : ∀ b, b ≠ P → b ≠ c → (upd (upd H P (.tbl (ps' ++ more))) c (CodeO c q)) b = H b := fun b h1 h2 => by rw [upd_ne h2, upd_ne h1]
    have noc : ∀ b o, H b = some o → b ≠ c := fun b o e z => by
      rw [z, nc] at e
      cases e
    have ok : CellOk K bu (upd G c (CodeO c q)) (upd (upd H P (.tbl (ps' ++ more))) c (CodeO c q)) v (.w ns P q) [P] := by
      refine ⟨a, ps' ++ more, rfl, e1, Evl.ex_l eg e2, ⟨by rw [upd_ne npc, upd_same], tri, fun pos cv z => ?_⟩⟩
      rcases cod pos cv z with z | z
      · obtain ⟨c', e, q⟩ := k'.cod pos cv z
        exact ⟨c', e, eg _ _ q⟩
      · exact ⟨c, z, upd_same⟩
    refine ⟨upd G c (CodeO c q), Le.new gc rc, fun b o e => ?_, fun b o e => ?_, fps, ?_, n, fun b hb => ?_⟩
    · by_cases z : b = c
      · rw [z] at e ⊢
        rw [upd_same] at e ⊢
        exact e
      · rw [upd_ne z] at e
        rw [keepH b (fun z2 => by rw [z2, dP.1] at e; cases e) z]
        exact r.gh b o e
    · have z := r.rh b o e
      rw [keepH b (fun z2 => by rw [z2, dP.2] at e; cases e) (noc b o z)]
      exact z
    · have c1 := cs.set (fp := []) (v := v) (c := .no) rfl i
      rw [set_self hσ] at c1
      have c2 := c1.mono (H' := upd (upd H P (.tbl (ps' ++ more))) c (CodeO c q)) eg fun b hb => by
        obtain ⟨o, e⟩ := c1.there b hb
        exact keepH b (fun z => nP (by rw [← z]; exact hb)) (noc b o e)
      have c3 := c2.set ok i
      rw [set_self hσ, List.set_set, List.set_set, set_self h, set_self h2] at c3
      exact c3
    · have q := d b hb
      obtain ⟨o, e⟩ := cs.there b hb
      exact ⟨by rw [upd_ne (noc b o e)]; exact q.1, q.2⟩
/-- what was held is let go; all else stands -/
theorem Rel.unhold {p : Addr} {o : HO} {H2 : Hp} (r : Rel K bu σ H G (upd R p o) E) (hr : R p = none) (hg : G p = none) (k : ∀ b u, b ≠ p → H b = some u → H2 b = some u) : Rel K bu σ H2 G R E := by
  obtain ⟨fps, c, n, d⟩ := r.fps
  have np : ∀ b ∈ fps.flatten, b ≠ p := fun b hb z => by
    have q := (d b hb).2
    rw [z, upd_same] at q
    cases q
  refine ⟨fun b u e => k b u (fun z => by rw [z, hg] at e; cases e) (r.gh b u e), fun b u e => ?_, fps, c.mono (Ex.refl G) fun b hb => ?_, n, fun b hb => ?_⟩
  · have nb : b ≠ p := fun z => by rw [z, hr] at e; cases e
    exact k b u nb (r.rh b u (by rw [upd_ne nb]; exact e))
  · obtain ⟨u, e⟩ := c.there b hb
    rw [e, k b u (np b hb) e]
  · have q := d b hb
    rw [upd_ne (np b hb)] at q
    exact q
/-- .. and a new thing is frozen -/
theorem Rel.unholdF {p a : Addr} {o u : HO} {H2 : Hp} (r : Rel K bu σ H G (upd R p o) E) (hr : R p = none) (hg : G p = none) (k : ∀ b u, b ≠ p → H b = some u → H2 b = some u) (ha : H a = none) (ha2 : H2 a = some u) : Le R G (upd G a u) ∧ Rel K bu σ H2 (upd G a u) R E := by
  have ga := ex_none r.gh ha
  have ra0 := ex_none r.rh ha
  have npa : a ≠ p := fun z => by
    rw [z, upd_same] at ra0
    cases ra0
  have ra : R a = none := by rw [upd_ne npa] at ra0; exact ra0
  obtain ⟨fps, c, n, d⟩ := r.fps
  have np : ∀ b ∈ fps.flatten, b ≠ p := fun b hb z => by
    have q := (d b hb).2
    rw [z, upd_same] at q
    cases q
  have na : ∀ b ∈ fps.flatten, b ≠ a := fun b hb z => by
    obtain ⟨w, e⟩ := c.there b hb
    rw [z, ha] at e
    cases e
  refine ⟨Le.new ga ra, fun b w e => ?_, fun b w e => ?_, fps, c.mono (Ex.new ga) fun b hb => ?_, n, fun b hb => ?_⟩
  · by_cases z : b = a
    · rw [z] at e ⊢
      rw [upd_same] at e
      rw [ha2]
      exact e
    · rw [upd_ne z] at e
      exact k b w (fun z => by rw [z, hg] at e; cases e) (r.gh b w e)
  · have nb : b ≠ p := fun z => by rw [z, hr] at e; cases e
    exact k b w nb (r.rh b w (by rw [upd_ne nb]; exact e))
  · obtain ⟨w, e⟩ := c.there b hb
    rw [e, k b w (np b hb) e]
  · have q := d b hb
    rw [upd_ne (np b hb)] at q
    exact ⟨by rw [upd_ne (na b hb)]; exact q.1, q.2⟩
end
end DL

namespace DL
open PySem PySem.Spec PyProof.Rows L2
open Evl (Ex)

/-! ### readings over data -/
structure DE where
  run : Env → (PyData → Prop) → Prop
  cost : Nat := 0
instance : CoeFun DE (fun _ => Env → (PyData → Prop) → Prop) := ⟨DE.run⟩
structure DN where
  run : Env → (List PyData → Prop) → Prop
  cost : Nat := 0
instance : CoeFun DN (fun _ => Env → (List PyData → Prop) → Prop) := ⟨DN.run⟩
structure DT where
  run : Env → (Bool → Prop) → Prop
  cost : Nat := 0
instance : CoeFun DT (fun _ => Env → (Bool → Prop) → Prop) := ⟨DT.run⟩
structure DO where
  run : Env → (Option Int → Prop) → Prop
  cost : Nat := 0
instance : CoeFun DO (fun _ => Env → (Option Int → Prop) → Prop) := ⟨DO.run⟩
/-- a fork whose test is known to the reader -/
structure Br (b : Bool) (A B : Prop) : Prop where
  t : b = true → A
  f : b = false → B
theorem Br.tt {A B : Prop} (h : A) : Br true A B := ⟨fun _ => h, fun e => by cases e⟩
theorem Br.ff {A B : Prop} (h : B) : Br false A B := ⟨fun e => (by cases e), fun _ => h⟩
theorem Br.yes {b : Bool} {A B : Prop} (e : b = true) (h : A) : Br b A B := ⟨fun _ => h, fun z => by rw [e] at z; cases z⟩
theorem Br.no {b : Bool} {A B : Prop} (e : b = false) (h : B) : Br b A B := ⟨fun z => (by rw [e] at z; cases z), fun _ => h⟩
def Sim (K : PySem.W.Frag) (te : TE) (de : DE) : Prop := ∀ (bu : Nat) (σ : L2.St) (H G R : Hp) (E : Env) (Q : VK) (P : PyData → Prop), Rel K (bu + de.cost) σ H G R E → de E P →
  (∀ v d H' G', Le R G G' → Rel K bu σ H' G' R E → Dv K G' v d → P d → Q v H') → te σ H Q
def SimN (K : PySem.W.Frag) (te : TE) (dn : DN) : Prop := ∀ (bu : Nat) (σ : L2.St) (H G R : Hp) (E : Env) (Q : VK) (P : List PyData → Prop), Rel K (bu + dn.cost) σ H G R E → dn E P →
  (∀ p us ds H' G', Le R G G' → R p = none → G' p = none → Rel K bu σ H' G' (upd R p (.lst us)) E → Dvs K G' us ds → P ds → Q (.ref p) H') → te σ H Q
def SimT (K : PySem.W.Frag) (tt : TT) (dt : DT) : Prop := ∀ (bu : Nat) (σ : L2.St) (H G R : Hp) (E : Env) (Q : Bool → Hp → Prop) (P : Bool → Prop), Rel K (bu + dt.cost) σ H G R E → dt E P →
  (∀ b H' G', Le R G G' → Rel K bu σ H' G' R E → P b → Q b H') → tt σ H Q
def SimA (K : PySem.W.Frag) (n : Nat) (ta : TA) (da : DN) : Prop := ∀ (bu : Nat) (σ : L2.St) (H G R : Hp) (E : Env) (Q : List V → Hp → Prop) (P : List PyData → Prop), Rel K (bu + da.cost) σ H G R E → da E P →
  (∀ vs ds H' G', ds.length = n → Le R G G' → Rel K bu σ H' G' R E → Dvs K G' vs ds → P ds → Q vs H') → ta σ H Q
def SimO (K : PySem.W.Frag) (to : TO) (d : DO) : Prop := ∀ (bu : Nat) (σ : L2.St) (H G R : Hp) (E : Env) (Q : Option Int → Hp → Prop) (P : Option Int → Prop), Rel K (bu + d.cost) σ H G R E → d E P →
  (∀ o H' G', Le R G G' → Rel K bu σ H' G' R E → P o → Q o H') → to σ H Q
structure PD (X : Cx) (K : PySem.W.Frag) (e : Expr) (te : TE) (de : DE) : Prop where
  pe : PE X e te
  sim : Sim K te de
structure PN (X : Cx) (K : PySem.W.Frag) (e : Expr) (te : TE) (dn : DN) : Prop where
  pe : PE X e te
  sim : SimN K te dn
structure PTD (X : Cx) (K : PySem.W.Frag) (e : Expr) (tt : TT) (dt : DT) : Prop where
  pt : PT X e tt
  sim : SimT K tt dt
structure PWD (X : Cx) (K : PySem.W.Frag) (e : Expr) (tt : TT) (dt : DT) : Prop where
  pw : PW X e tt
  sim : SimT K tt dt
structure PAD (X : Cx) (K : PySem.W.Frag) (es : List Expr) (n : Nat) (ta : TA) (da : DN) : Prop where
  pa : PA X es ta
  sim : SimA K n ta da
structure POD (X : Cx) (K : PySem.W.Frag) (e : Option Expr) (to : TO) (d : DO) : Prop where
  po : PO X e to
  sim : SimO K to d
/-! operations on values, over data -/
def VSim (K : PySem.W.Frag) (r : R2) (f : PyData → PyData → (PyData → Prop) → Prop) : Prop := ∀ (x y : V) (dx dy : PyData) (G H : Hp) (Q : VK) (P : PyData → Prop), Ex G H → Dv K G x dx → Dv K G y dy → f dx dy P →
  (∀ v d H' G', Grow G H G' H' → Dv K G' v d → P d → Q v H') → r x y H Q
def USim (K : PySem.W.Frag) (r : V → Hp → VK → Prop) (f : PyData → (PyData → Prop) → Prop) : Prop := ∀ (x : V) (dx : PyData) (G H : Hp) (Q : VK) (P : PyData → Prop), Ex G H → Dv K G x dx → f dx P →
  (∀ v d H' G', Grow G H G' H' → Dv K G' v d → P d → Q v H') → r x H Q
def CSim (K : PySem.W.Frag) (r : List V → Hp → VK → Prop) (f : List PyData → (PyData → Prop) → Prop) : Prop := ∀ (xs : List V) (dx : List PyData) (G H : Hp) (Q : VK) (P : PyData → Prop), Ex G H → Dvs K G xs dx → f dx P →
  (∀ v d H' G', Grow G H G' H' → Dv K G' v d → P d → Q v H') → r xs H Q
/-- .. that make a new list -/
def VSimN (K : PySem.W.Frag) (r : R2) (f : PyData → PyData → (List PyData → Prop) → Prop) : Prop := ∀ (x y : V) (dx dy : PyData) (G H : Hp) (Q : VK) (P : List PyData → Prop), Ex G H → Dv K G x dx → Dv K G y dy → f dx dy P →
  (∀ p us ds, H p = none → Dvs K G us ds → P ds → Q (.ref p) (upd H p (.lst us))) → r x y H Q
def CSimN (K : PySem.W.Frag) (r : List V → Hp → VK → Prop) (f : List PyData → (List PyData → Prop) → Prop) : Prop := ∀ (xs : List V) (dx : List PyData) (G H : Hp) (Q : VK) (P : List PyData → Prop), Ex G H → Dvs K G xs dx → f dx P →
  (∀ p us ds, H p = none → Dvs K G us ds → P ds → Q (.ref p) (upd H p (.lst us))) → r xs H Q
section
variable {K : PySem.W.Frag} {te ta tb : TE} {de da db : DE} {dn : DN}
section
variable {b x y : Nat} {σ : L2.St} {H G R : Hp} {E : Env}
theorem Rel.two (r : Rel K (b + (x + y)) σ H G R E) : Rel K (b + y + x) σ H G R E := r.dn (by omega)
theorem Rel.fst (r : Rel K (b + (x + y)) σ H G R E) : Rel K (b + x) σ H G R E := r.dn (by omega)
theorem Rel.snd (r : Rel K (b + (x + y)) σ H G R E) : Rel K (b + y) σ H G R E := r.dn (by omega)
theorem Rel.fin (r : Rel K (b + x) σ H G R E) : Rel K b σ H G R E := r.dn (by omega)
end
theorem keep {x : PyData} {v : V} {G H : Hp} {Q : VK} {P : PyData → Prop} (e : Ex G H) (k : ∀ v d H' G', Grow G H G' H' → Dv K G' v d → P d → Q v H') (h : Dv K G v x) (p : P x) : Q v H := k v x H G (Grow.refl e) h p
/-- new lists frozen -/
def dFrz (dn : DN) : DE := ⟨fun E P => dn E fun ds => P (.list ds), dn.cost⟩
theorem SimN.frz (h : SimN K te dn) : Sim K te (dFrz dn) := by
  intro bu σ H G R E Q P r hd k
  refine h _ σ H G R E Q _ r hd fun p us ds H' G' l hr hg r' hq hp => ?_
  have hH : H' p = some (.lst us) := r'.rh p _ upd_same
  exact k _ _ H' (upd G' p (.lst us)) (l.trans (Le.new hg hr)) (r'.freezeR hH hr hg) (.lst upd_same (hq.mono (Ex.new hg))) hp
theorem VSimN.frz {r : R2} {f : PyData → PyData → (List PyData → Prop) → Prop} (h : VSimN K r f) : VSim K r fun x y P => f x y fun ds => P (.list ds) := by
  intro x y dx dy G H Q P e hx hy hf k
  refine h x y dx dy G H Q _ e hx hy hf fun p us ds hp hq hP => ?_
  exact k _ _ _ _ (Grow.one e hp) (.lst upd_same (hq.mono (Ex.new (ex_none e hp)))) hP
theorem CSimN.frz {r : List V → Hp → VK → Prop} {f : List PyData → (List PyData → Prop) → Prop} (h : CSimN K r f) : CSim K r fun xs P => f xs fun ds => P (.list ds) := by
  intro xs dx G H Q P e hx hf k
  refine h xs dx G H Q _ e hx hf fun p us ds hp hq hP => ?_
  exact k _ _ _ _ (Grow.one e hp) (.lst upd_same (hq.mono (Ex.new (ex_none e hp)))) hP
/-! ### names, constants -/
def dVar (i : Nat) : DE := ⟨fun E P => match E[i]? with
  | some (.d x) => P x
  | _ => False, 0⟩
theorem sim_var {i : Nat} : Sim K (tVar i) (dVar i) := by
  intro bu σ H G R E Q P r hd k
  simp only [dVar] at hd
  split at hd
  · rename_i x e
    obtain ⟨v, h1, h2⟩ := r.dat e
    exact ⟨v, h1, k v x H G (Le.refl R G) r h2 hd⟩
  · exact hd.elim
def dC (x : PyData) : DE := ⟨fun _ P => P x, 0⟩
theorem sim_c {v : V} {x : PyData} (h : ∀ G, Dv K G v x) : Sim K (tC v) (dC x) := fun _ _ H G R _ _ _ r hd k => k v x H G (Le.refl R G) r (h G) hd
/-! ### operators -/
def dOp (f : PyData → PyData → (PyData → Prop) → Prop) (da db : DE) : DE := ⟨fun E P => da E fun x => db E fun y => f x y P, da.cost + db.cost⟩
theorem sim_op {r : R2} {f : PyData → PyData → (PyData → Prop) → Prop} (ha : Sim K ta da) (hb : Sim K tb db) (hr : VSim K r f) : Sim K (tOp r ta tb) (dOp f da db) := by
  intro bu σ H G R E Q P r0 hd k
  refine ha _ σ H G R E _ _ r0.two hd fun x dx H1 G1 l1 r1 hx hd1 => ?_
  refine hb _ σ H1 G1 R E _ _ r1 hd1 fun y dy H2 G2 l2 r2 hy hd2 => ?_
  exact hr x y dx dy G2 H2 Q P r2.gh (hx.mono l2.1) hy hd2 fun v d H3 G3 g hv hp => k v d H3 G3 ((l1.trans l2).trans (g.le r2.rh)) (r2.grow g) hv hp
def dOpN (f : PyData → PyData → (List PyData → Prop) → Prop) (da db : DE) : DN := ⟨fun E P => da E fun x => db E fun y => f x y P, da.cost + db.cost⟩
theorem sim_opN {r : R2} {f : PyData → PyData → (List PyData → Prop) → Prop} (ha : Sim K ta da) (hb : Sim K tb db) (hr : VSimN K r f) : SimN K (tOp r ta tb) (dOpN f da db) := by
  intro bu σ H G R E Q P r0 hd k
  refine ha _ σ H G R E _ _ r0.two hd fun x dx H1 G1 l1 r1 hx hd1 => ?_
  refine hb _ σ H1 G1 R E _ _ r1 hd1 fun y dy H2 G2 l2 r2 hy hd2 => ?_
  refine hr x y dx dy G2 H2 Q P r2.gh (hx.mono l2.1) hy hd2 fun p us ds hp hv hP => ?_
  exact k p us ds _ G2 (l1.trans l2) (ex_none r2.rh hp) (ex_none r2.gh hp) (r2.hold hp) hv hP
def dUn (f : PyData → (PyData → Prop) → Prop) (da : DE) : DE := ⟨fun E P => da E fun x => f x P, da.cost⟩
theorem sim_un {r : V → Hp → VK → Prop} {f : PyData → (PyData → Prop) → Prop} (ha : Sim K ta da) (hr : USim K r f) : Sim K (tUn r ta) (dUn f da) := by
  intro bu σ H G R E Q P r0 hd k
  refine ha _ σ H G R E _ _ r0 hd fun x dx H1 G1 l1 r1 hx hd1 => ?_
  exact hr x dx G1 H1 Q P r1.gh hx hd1 fun v d H3 G3 g hv hp => k v d H3 G3 (l1.trans (g.le r1.rh)) (r1.grow g) hv hp
/-- a < b < c -/
def dChain (f f' : PyData → PyData → (PyData → Prop) → Prop) (da db dc : DE) : DE := ⟨fun E P => da E fun x => db E fun y => f x y fun z => match z with
  | .bool k => Br k (dc E fun w => f' y w P) (P (.bool false))
  | _ => False, da.cost + (db.cost + dc.cost)⟩
theorem sim_chain {r r' : R2} {f f' : PyData → PyData → (PyData → Prop) → Prop} {tc : TE} {dc : DE} (ha : Sim K ta da) (hb : Sim K tb db) (hc : Sim K tc dc) (hr : VSim K r f) (hr' : VSim K r' f') : Sim K (tChain r r' ta tb tc) (dChain f f' da db dc) := by
  intro bu σ H G R E Q P r0 hd k
  refine ha _ σ H G R E _ _ r0.two hd fun x dx H1 G1 l1 r1 hx hd1 => ?_
  refine hb _ σ H1 G1 R E _ _ r1.two hd1 fun y dy H2 G2 l2 r2 hy hd2 => ?_
  refine hr x y dx dy G2 H2 _ _ r2.gh (hx.mono l2.1) hy hd2 fun v d H3 G3 g hv hp => ?_
  cases d with
  | bool b =>
    have e := hv.bool_inv
    subst e
    refine ⟨b, rfl, ?_⟩
    have l3 := (l1.trans l2).trans (g.le r2.rh)
    have r3 := r2.grow g
    cases b with
    | true =>
      rw [if_pos rfl]
      refine hc _ σ H3 G3 R E _ _ r3 (hp.t rfl) fun w dw H4 G4 l4 r4 hw hd4 => ?_
      exact hr' y w dy dw G4 H4 Q P r4.gh (hy.mono (g.g.trans l4.1)) hw hd4 fun v d H5 G5 g5 hv5 hp5 => k v d H5 G5 ((l3.trans l4).trans (g5.le r4.rh)) (r4.grow g5) hv5 hp5
    | false =>
      rw [if_neg Bool.false_ne_true]
      exact k _ _ H3 G3 l3 r3.fin (.bl false) (hp.f rfl)
  | _ => exact hp.elim
/-! ### arguments, displays, calls -/
def dNil : DN := ⟨fun _ P => P [], 0⟩
def dCons (da : DE) (dr : DN) : DN := ⟨fun E P => da E fun x => dr E fun xs => P (x :: xs), da.cost + dr.cost⟩
theorem sim_nil : SimA K 0 tNil dNil := fun _ _ H G R _ _ _ r hd k => k [] [] H G rfl (Le.refl R G) r .nil hd
variable {n : Nat}
theorem sim_cons {tr : TA} {dr : DN} (ha : Sim K ta da) (hr : SimA K n tr dr) : SimA K (n + 1) (tCons ta tr) (dCons da dr) := by
  intro bu σ H G R E Q P r0 hd k
  refine ha _ σ H G R E _ _ r0.two hd fun x dx H1 G1 l1 r1 hx hd1 => ?_
  exact hr _ σ H1 G1 R E _ _ r1 hd1 fun vs ds H2 G2 hn l2 r2 hv hp => k (x :: vs) (dx :: ds) H2 G2 (congrArg (· + 1) hn) (l1.trans l2) r2 (.cons (hx.mono l2.1) hv) hp
def dTup (da : DN) : DE := ⟨fun E P => da E fun ds => P (.tuple ds), da.cost⟩
theorem sim_tup {ta : TA} {da : DN} (ha : SimA K n ta da) (hn : n ≤ 1000) : Sim K (tTup ta) (dTup da) := by
  intro bu σ H G R E Q P r0 hd k
  refine ha _ σ H G R E _ _ r0 hd fun vs ds H1 G1 hl l1 r1 hx hd1 => ?_
  refine ⟨by rw [hx.length]; exact Evl.sz_of (by omega), fun p hp => ?_⟩
  exact k _ _ _ (upd G1 p (.tup vs)) (l1.trans ((Grow.one r1.gh hp).le r1.rh)) (r1.grow (Grow.one r1.gh hp)) (.tup (.inl (.inl upd_same)) (hx.mono (Ex.new (ex_none r1.gh hp)))) hd1
theorem sim_lst {ta : TA} {da : DN} (ha : SimA K n ta da) (hn : n ≤ 1000) : SimN K (tLst ta) da := by
  intro bu σ H G R E Q P r0 hd k
  refine ha _ σ H G R E _ _ r0 hd fun vs ds H1 G1 hl l1 r1 hx hd1 => ?_
  refine ⟨by rw [hx.length]; exact Evl.sz_of (by omega), fun p hp => ?_⟩
  exact k p vs ds _ G1 l1 (ex_none r1.rh hp) (ex_none r1.gh hp) (r1.hold hp) hx hd1
/-- a built-in -/
def dCB (f : List PyData → (PyData → Prop) → Prop) (da : DN) : DE := ⟨fun E P => da E fun ds => f ds P, da.cost⟩
theorem sim_cb {r : List V → Hp → VK → Prop} {f : List PyData → (PyData → Prop) → Prop} {ta : TA} {da : DN} (ha : SimA K n ta da) (hr : CSim K r f) : Sim K (tCB r ta) (dCB f da) := by
  intro bu σ H G R E Q P r0 hd k
  refine ha _ σ H G R E _ _ r0 hd fun vs ds H1 G1 hl l1 r1 hx hd1 => ?_
  exact hr vs ds G1 H1 Q P r1.gh hx hd1 fun v d H3 G3 g hv hp => k v d H3 G3 (l1.trans (g.le r1.rh)) (r1.grow g) hv hp
def dCBN (f : List PyData → (List PyData → Prop) → Prop) (da : DN) : DN := ⟨fun E P => da E fun ds => f ds P, da.cost⟩
theorem sim_cbN {r : List V → Hp → VK → Prop} {f : List PyData → (List PyData → Prop) → Prop} {ta : TA} {da : DN} (ha : SimA K n ta da) (hr : CSimN K r f) : SimN K (tCB r ta) (dCBN f da) := by
  intro bu σ H G R E Q P r0 hd k
  refine ha _ σ H G R E _ _ r0 hd fun vs ds H1 G1 hl l1 r1 hx hd1 => ?_
  refine hr vs ds G1 H1 Q P r1.gh hx hd1 fun p us ds hp hv hP => ?_
  exact k p us ds _ G1 l1 (ex_none r1.rh hp) (ex_none r1.gh hp) (r1.hold hp) hv hP
/-- a def of data -/
def spD (K : PySem.W.Frag) (φ : List PyData → (PyData → Prop) → Prop) : Sp := fun vs H Q _ => ∃ (G : Hp) (ds : List PyData) (P : PyData → Prop), Ex G H ∧ Dvs K G vs ds ∧ φ ds P ∧ ∀ d v H' G', P d → Grow G H G' H' → Dv K G' v d → Q v H'
def dCall (φ : List PyData → (PyData → Prop) → Prop) (da : DN) : DE := ⟨fun E P => da E fun ds => φ ds P, da.cost⟩
theorem sim_call {φ : List PyData → (PyData → Prop) → Prop} {ta : TA} {da : DN} (ha : SimA K n ta da) : Sim K (tCall (spD K φ) [] E0 ta) (dCall φ da) := by
  intro bu σ H G R E Q P r0 hd k
  refine ha _ σ H G R E _ _ r0 hd fun vs ds H1 G1 hl l1 r1 hx hd1 => ?_
  show spD K φ (vs ++ []) H1 Q E0
  rw [List.append_nil]
  exact ⟨G1, ds, P, r1.gh, hx, hd1, fun d v H2 G2 hp g hv => k v d H2 G2 (l1.trans (g.le r1.rh)) (r1.grow g) hv hp⟩
/-! ### tests -/
def dB (da : DE) : DT := ⟨fun E P => da E fun x => match x with
  | .bool b => P b
  | _ => False, da.cost⟩
theorem sim_B (ha : Sim K ta da) : SimT K (tB ta) (dB da) := by
  intro bu σ H G R E Q P r0 hd k
  refine ha _ σ H G R E _ _ r0 hd fun v d H1 G1 l1 r1 hx hd1 => ?_
  cases d with
  | bool b =>
    have e := hx.bool_inv
    subst e
    exact ⟨b, rfl, k b H1 G1 l1 r1 hd1⟩
  | _ => exact hd1.elim
theorem sim_test (ha : Sim K ta da) : SimT K (tTest ta) (dB da) := by
  intro bu σ H G R E Q P r0 hd k
  refine ha _ σ H G R E _ _ r0 hd fun v d H1 G1 l1 r1 hx hd1 => ?_
  cases d with
  | bool b =>
    have e := hx.bool_inv
    subst e
    exact ⟨b, rfl, k b H1 G1 l1 r1 hd1⟩
  | _ => exact hd1.elim
variable {t u : TT} {dt du : DT}
def dAnd (dt du : DT) : DT := ⟨fun E P => dt E fun b => Br b (du E P) (P false), dt.cost + du.cost⟩
def dOr (dt du : DT) : DT := ⟨fun E P => dt E fun b => Br b (P true) (du E P), dt.cost + du.cost⟩
def dNot (dt : DT) : DT := ⟨fun E P => dt E fun b => P (!b), dt.cost⟩
theorem sim_and (h : SimT K t dt) (h' : SimT K u du) : SimT K (tAnd t u) (dAnd dt du) := by
  intro bu σ H G R E Q P r0 hd k
  refine h _ σ H G R E _ _ r0.two hd fun b H1 G1 l1 r1 hd1 => ?_
  cases b with
  | true =>
    rw [if_pos rfl]
    exact h' _ σ H1 G1 R E _ _ r1 (hd1.t rfl) fun b H2 G2 l2 r2 hp => k b H2 G2 (l1.trans l2) r2 hp
  | false =>
    rw [if_neg Bool.false_ne_true]
    exact k false H1 G1 l1 r1.fin (hd1.f rfl)
theorem sim_or (h : SimT K t dt) (h' : SimT K u du) : SimT K (tOr t u) (dOr dt du) := by
  intro bu σ H G R E Q P r0 hd k
  refine h _ σ H G R E _ _ r0.two hd fun b H1 G1 l1 r1 hd1 => ?_
  cases b with
  | true =>
    rw [if_pos rfl]
    exact k true H1 G1 l1 r1.fin (hd1.t rfl)
  | false =>
    rw [if_neg Bool.false_ne_true]
    exact h' _ σ H1 G1 R E _ _ r1 (hd1.f rfl) fun b H2 G2 l2 r2 hp => k b H2 G2 (l1.trans l2) r2 hp
theorem sim_not (h : SimT K t dt) : SimT K (tNot t) (dNot dt) := by
  intro bu σ H G R E Q P r0 hd k
  exact h _ σ H G R E _ _ r0 hd fun b H1 G1 l1 r1 hd1 => k (!b) H1 G1 l1 r1 hd1
def dAndV (da db : DE) : DE := ⟨fun E P => da E fun x => match x with
  | .bool b => Br b (db E P) (P (.bool false))
  | _ => False, da.cost + db.cost⟩
def dOrV (da db : DE) : DE := ⟨fun E P => da E fun x => match x with
  | .bool b => Br b (P (.bool true)) (db E P)
  | _ => False, da.cost + db.cost⟩
def dNotV (da : DE) : DE := ⟨fun E P => da E fun x => match x with
  | .bool b => P (.bool (!b))
  | _ => False, da.cost⟩
theorem sim_andV (h : Sim K ta da) (h' : Sim K tb db) : Sim K (tAndV ta tb) (dAndV da db) := by
  intro bu σ H G R E Q P r0 hd k
  refine h _ σ H G R E _ _ r0.two hd fun v d H1 G1 l1 r1 hv hd1 => ?_
  cases d with
  | bool b =>
    have e := hv.bool_inv
    subst e
    refine ⟨b, rfl, ?_⟩
    cases b with
    | true =>
      rw [if_pos rfl]
      exact h' _ σ H1 G1 R E _ _ r1 (hd1.t rfl) fun v d H2 G2 l2 r2 hv hp => k v d H2 G2 (l1.trans l2) r2 hv hp
    | false =>
      rw [if_neg Bool.false_ne_true]
      exact k _ _ H1 G1 l1 r1.fin (.bl false) (hd1.f rfl)
  | _ => exact hd1.elim
theorem sim_orV (h : Sim K ta da) (h' : Sim K tb db) : Sim K (tOrV ta tb) (dOrV da db) := by
  intro bu σ H G R E Q P r0 hd k
  refine h _ σ H G R E _ _ r0.two hd fun v d H1 G1 l1 r1 hv hd1 => ?_
  cases d with
  | bool b =>
    have e := hv.bool_inv
    subst e
    refine ⟨b, rfl, ?_⟩
    cases b with
    | true =>
      rw [if_pos rfl]
      exact k _ _ H1 G1 l1 r1.fin (.bl true) (hd1.t rfl)
    | false =>
      rw [if_neg Bool.false_ne_true]
      exact h' _ σ H1 G1 R E _ _ r1 (hd1.f rfl) fun v d H2 G2 l2 r2 hv hp => k v d H2 G2 (l1.trans l2) r2 hv hp
  | _ => exact hd1.elim
theorem sim_notV (h : Sim K ta da) : Sim K (tNotV ta) (dNotV da) := by
  intro bu σ H G R E Q P r0 hd k
  refine h _ σ H G R E _ _ r0 hd fun v d H1 G1 l1 r1 hv hd1 => ?_
  cases d with
  | bool b =>
    have e := hv.bool_inv
    subst e
    exact ⟨b, rfl, k _ _ H1 G1 l1 r1 (.bl _) hd1⟩
  | _ => exact hd1.elim
def dIf (dt : DT) (da db : DE) : DE := ⟨fun E P => dt E fun b => Br b (da E P) (db E P), dt.cost + (da.cost + db.cost)⟩
theorem sim_if (h : SimT K t dt) (ha : Sim K ta da) (hb : Sim K tb db) : Sim K (tIf t ta tb) (dIf dt da db) := by
  intro bu σ H G R E Q P r0 hd k
  refine h _ σ H G R E _ _ r0.two hd fun b H1 G1 l1 r1 hd1 => ?_
  cases b with
  | true =>
    rw [if_pos rfl]
    exact ha _ σ H1 G1 R E _ _ r1.fst (hd1.t rfl) fun v d H2 G2 l2 r2 hv hp => k v d H2 G2 (l1.trans l2) r2 hv hp
  | false =>
    rw [if_neg Bool.false_ne_true]
    exact hb _ σ H1 G1 R E _ _ r1.snd (hd1.f rfl) fun v d H2 G2 l2 r2 hv hp => k v d H2 G2 (l1.trans l2) r2 hv hp
/-! ### slices -/
def dNone : DO := ⟨fun _ P => P none, 0⟩
def dSome (da : DE) : DO := ⟨fun E P => da E fun x => match x with
  | .int i => P (some i)
  | _ => False, da.cost⟩
theorem sim_none : SimO K tNoPart dNone := fun _ _ H G R _ _ _ r hd k => k none H G (Le.refl R G) r hd
theorem sim_some (h : Sim K ta da) : SimO K (tPart ta) (dSome da) := by
  intro bu σ H G R E Q P r0 hd k
  refine h _ σ H G R E _ _ r0 hd fun v d H1 G1 l1 r1 hv hd1 => ?_
  cases d with
  | int i =>
    have e := hv.int_inv
    subst e
    exact ⟨i, rfl, k _ H1 G1 l1 r1 hd1⟩
  | _ => exact hd1.elim
def cutD (xs : List PyData) (lo hi : Option Int) : List PyData := (xs.drop (HT.sIx xs.length 0 lo)).take (HT.sIx xs.length xs.length hi - HT.sIx xs.length 0 lo)
theorem Dvs.cut {G : Hp} {vs : List V} {ds : List PyData} (h : Dvs K G vs ds) (lo hi : Option Int) : Dvs K G (cutV vs lo hi) (cutD ds lo hi) := by
  unfold cutV cutD
  rw [h.length]
  exact (h.drop _).take _
def dSl (f : PyData → Option Int → Option Int → (PyData → Prop) → Prop) (da : DE) (dl dh : DO) : DE := ⟨fun E P => da E fun x => dl E fun l => dh E fun h => f x l h P, da.cost + (dl.cost + dh.cost)⟩
def SSim (K : PySem.W.Frag) (r : V → Option Int → Option Int → Hp → VK → Prop) (f : PyData → Option Int → Option Int → (PyData → Prop) → Prop) : Prop := ∀ (x : V) (dx : PyData) (lo hi : Option Int) (G H : Hp) (Q : VK) (P : PyData → Prop), Ex G H → Dv K G x dx → f dx lo hi P →
  (∀ v d H' G', Grow G H G' H' → Dv K G' v d → P d → Q v H') → r x lo hi H Q
theorem sim_sl {r : V → Option Int → Option Int → Hp → VK → Prop} {f : PyData → Option Int → Option Int → (PyData → Prop) → Prop} {tl th : TO} {dl dh : DO} (ha : Sim K ta da) (hl : SimO K tl dl) (hh : SimO K th dh) (hr : SSim K r f) : Sim K (tSl r ta tl th) (dSl f da dl dh) := by
  intro bu σ H G R E Q P r0 hd k
  refine ha _ σ H G R E _ _ r0.two hd fun v d H1 G1 l1 r1 hv hd1 => ?_
  refine hl _ σ H1 G1 R E _ _ r1.two hd1 fun o H2 G2 l2 r2 hd2 => ?_
  refine hh _ σ H2 G2 R E _ _ r2 hd2 fun o' H3 G3 l3 r3 hd3 => ?_
  exact hr v d o o' G3 H3 Q P r3.gh (hv.mono (l2.1.trans l3.1)) hd3 fun v d H4 G4 g hv hp => k v d H4 G4 (((l1.trans l2).trans l3).trans (g.le r3.rh)) (r3.grow g) hv hp
end
end DL

namespace DL
open PySem PySem.Spec PyProof.Rows L2
open Evl (Ex)
section
variable {X : Cx} {K : PySem.W.Frag}
/-! ### + - * // % ** -/
def rAddA (K : PySem.W.Frag) : R2 := fun x y H Q => (∃ i j, x = .int i ∧ y = .int j ∧ Q (.int (i + j)) H) ∨ (rCat x y H Q ∨ (rCatA K x y H Q ∨ (∃ i j, x = .str i ∧ y = .str j ∧ i.length + j.length ≤ sizeLine ∧ Q (.str (i ++ j)) H)))
theorem op_addA : OpR X (binaryOp .Add) (rAddA X.K) := op_add.or (op_cat.or (op_catA.or op_add_str))
def fAdd : PyData → PyData → (PyData → Prop) → Prop := fun x y P => match x, y with
  | .int i, .int j => P (.int (i + j))
  | .list a, .list b => a.length + b.length ≤ sizeLine ∧ P (.list (a ++ b))
  | .tuple a, .tuple b => a.length + b.length ≤ sizeLine ∧ P (.tuple (a ++ b))
  | .str a, .str b => a.length + b.length ≤ sizeLine ∧ P (.str (a ++ b))
  | _, _ => False
theorem vs_add : VSim K (rAddA K) fAdd := by
  intro x y dx dy G H Q P e hx hy hf k
  unfold fAdd at hf
  split at hf
  · rw [hx.int_inv, hy.int_inv]
    exact .inl ⟨_, _, rfl, rfl, keep e k (.int _) hf⟩
  · obtain ⟨a, xs, rfl, ha, qa⟩ := hx.list_inv
    obtain ⟨b, ys, rfl, hb, qb⟩ := hy.list_inv
    refine .inr (.inl ⟨a, b, xs, ys, rfl, rfl, e _ _ ha, e _ _ hb, by rw [qa.length, qb.length]; exact hf.1, fun p hp => ?_⟩)
    exact k _ _ _ _ (Grow.one e hp) (.lst upd_same ((qa.append qb).mono (Ex.new (ex_none e hp)))) hf.2
  · obtain ⟨a, xs, rfl, ha, qa⟩ := hx.tuple_inv
    obtain ⟨b, ys, rfl, hb, qb⟩ := hy.tuple_inv
    have l1 := qa.length
    have l2 := qb.length
    refine .inr (.inr (.inl ⟨a, b, xs, ys, rfl, rfl, Evl.ex_t e ha, Evl.ex_t e hb, by rw [l1, l2]; exact hf.1, fun z => ?_, fun _ z => ?_, fun _ _ p hp => ?_⟩))
    · subst z
      cases qa
      exact keep e k hy hf.2
    · subst z
      cases qb
      rw [List.append_nil] at hf
      exact keep e k hx hf.2
    · exact k _ _ _ _ (Grow.one e hp) (.tup (.inl (.inl upd_same)) ((qa.append qb).mono (Ex.new (ex_none e hp)))) hf.2
  · rw [hx.str_inv, hy.str_inv]
    exact .inr (.inr (.inr ⟨_, _, rfl, rfl, hf.1, keep e k (.str _) hf.2⟩))
  · exact hf.elim
def fInt (C : Int → Int → Prop) (g : Int → Int → Int) : PyData → PyData → (PyData → Prop) → Prop := fun x y P => match x, y with
  | .int i, .int j => C i j ∧ P (.int (g i j))
  | _, _ => False
def fInt0 (g : Int → Int → Int) : PyData → PyData → (PyData → Prop) → Prop := fun x y P => match x, y with
  | .int i, .int j => P (.int (g i j))
  | _, _ => False
theorem vs_int {C : Int → Int → Prop} {g : Int → Int → Int} : VSim K (rI C fun i j => .int (g i j)) (fInt C g) := by
  intro x y dx dy G H Q P e hx hy hf k
  unfold fInt at hf
  split at hf
  · rw [hx.int_inv, hy.int_inv]
    exact ⟨_, _, rfl, rfl, hf.1, keep e k (.int _) hf.2⟩
  · exact hf.elim
theorem vs_int0 {g : Int → Int → Int} : VSim K (rI0 fun i j => .int (g i j)) (fInt0 g) := by
  intro x y dx dy G H Q P e hx hy hf k
  unfold fInt0 at hf
  split at hf
  · rw [hx.int_inv, hy.int_inv]
    exact ⟨_, _, rfl, rfl, keep e k (.int _) hf⟩
  · exact hf.elim
def rMulA : R2 := fun x y H Q => rI CMul (fun i j => .int (i * j)) x y H Q ∨ (rI CMulW (fun i j => .int (i * j)) x y H Q ∨ rRep x y H Q)
theorem op_mulA : OpR X (binaryOp .Mult) rMulA := op_mul.or (op_mulW.or op_rep)
def fMul : PyData → PyData → (PyData → Prop) → Prop := fun x y P => match x, y with
  | .int i, .int j => (CMul i j ∨ CMulW i j) ∧ P (.int (i * j))
  | .list a, .int j => (j < 2 ^ 63 ∧ -(2 ^ 63) ≤ j ∧ a.length * j.toNat ≤ sizeLine) ∧ P (.list (List.replicate j.toNat a).flatten)
  | _, _ => False
theorem Dvs.rep {G : Hp} {vs : List V} {ds : List PyData} (h : Dvs K G vs ds) : ∀ n : Nat, Dvs K G (List.replicate n vs).flatten (List.replicate n ds).flatten
  | 0 => .nil
  | n + 1 => by
    rw [List.replicate_succ, List.replicate_succ, List.flatten_cons, List.flatten_cons]
    exact h.append (Dvs.rep h n)
theorem vs_mul : VSim K rMulA fMul := by
  intro x y dx dy G H Q P e hx hy hf k
  unfold fMul at hf
  split at hf
  · rw [hx.int_inv, hy.int_inv]
    rcases hf.1 with c | c
    · exact .inl ⟨_, _, rfl, rfl, c, keep e k (.int _) hf.2⟩
    · exact .inr (.inl ⟨_, _, rfl, rfl, c, keep e k (.int _) hf.2⟩)
  · obtain ⟨a, xs, rfl, ha, qa⟩ := hx.list_inv
    rw [hy.int_inv]
    obtain ⟨⟨c1, c2, c3⟩, hp⟩ := hf
    refine .inr (.inr ⟨a, _, xs, rfl, rfl, e _ _ ha, c2, c1, by rw [qa.length]; exact c3, fun p hp' => ?_⟩)
    exact k _ _ _ _ (Grow.one e hp') (.lst upd_same ((qa.rep _).mono (Ex.new (ex_none e hp')))) hp
  · exact hf.elim
/-- [x] * n as a new list of our own -/
def fRepN : PyData → PyData → (List PyData → Prop) → Prop := fun x y P => match x, y with
  | .list a, .int j => (j < 2 ^ 63 ∧ -(2 ^ 63) ≤ j ∧ a.length * j.toNat ≤ sizeLine) ∧ P (List.replicate j.toNat a).flatten
  | _, _ => False
theorem vn_rep : VSimN K rMulA fRepN := by
  intro x y dx dy G H Q P e hx hy hf k
  unfold fRepN at hf
  split at hf
  · obtain ⟨a, xs, rfl, ha, qa⟩ := hx.list_inv
    rw [hy.int_inv]
    obtain ⟨⟨c1, c2, c3⟩, hp⟩ := hf
    exact .inr (.inr ⟨a, _, xs, rfl, rfl, e _ _ ha, c2, c1, by rw [qa.length]; exact c3, fun p hp' => k p _ _ hp' (qa.rep _) hp⟩)
  · exact hf.elim
def fCatN : PyData → PyData → (List PyData → Prop) → Prop := fun x y P => match x, y with
  | .list a, .list b => a.length + b.length ≤ sizeLine ∧ P (a ++ b)
  | _, _ => False
theorem vn_cat : VSimN K (rAddA K) fCatN := by
  intro x y dx dy G H Q P e hx hy hf k
  unfold fCatN at hf
  split at hf
  · obtain ⟨a, xs, rfl, ha, qa⟩ := hx.list_inv
    obtain ⟨b, ys, rfl, hb, qb⟩ := hy.list_inv
    exact .inr (.inl ⟨a, b, xs, ys, rfl, rfl, e _ _ ha, e _ _ hb, by rw [qa.length, qb.length]; exact hf.1, fun p hp => k p _ _ hp (qa.append qb) hf.2⟩)
  · exact hf.elim
theorem us_neg : USim K (rU fun i => .int (-i)) (fun x P => match x with
  | .int i => P (.int (-i))
  | _ => False) := by
  intro x dx G H Q P e hx hf k
  split at hf
  · rw [hx.int_inv]
    exact ⟨_, rfl, keep e k (.int _) hf⟩
  · exact hf.elim
def fNeg : PyData → (PyData → Prop) → Prop := fun x P => match x with
  | .int i => P (.int (-i))
  | _ => False
/-! ### comparisons -/
def fCmp (g : Int → Int → Bool) : PyData → PyData → (PyData → Prop) → Prop := fun x y P => match x, y with
  | .int i, .int j => P (.bool (g i j))
  | _, _ => False
theorem vs_cmp {g : Int → Int → Bool} : VSim K (rI0 fun i j => .bl (g i j)) (fCmp g) := by
  intro x y dx dy G H Q P e hx hy hf k
  unfold fCmp at hf
  split at hf
  · rw [hx.int_inv, hy.int_inv]
    exact ⟨_, _, rfl, rfl, keep e k (.bl _) hf⟩
  · exact hf.elim
theorem shaped_int (i : Int) : SeqAt.shaped (.int i) = true := by
  unfold SeqAt.shaped
  simp [PyData.canLay0, PyData.depth]
/-- == | != : two ints by themselves -/
def fEq (neg : Bool) : PyData → PyData → (PyData → Prop) → Prop := fun x y P => match x, y with
  | .int i, .int j => P (.bool (if neg then !decide (i = j) else decide (i = j)))
  | x, y => (SeqAt.shaped x = true ∧ SeqAt.shaped y = true) ∧ P (.bool (if neg then !PyData.eqv x y else PyData.eqv x y))
theorem eqv_int (i j : Int) : PyData.eqv (.int i) (.int j) = decide (i = j) := by
  simp only [PyData.eqv]
  rw [Bool.beq_eq_decide_eq]
theorem vs_eq : VSim K (rEqD K) (fEq false) := by
  intro x y dx dy G H Q P e hx hy hf k
  have main : (SeqAt.shaped dx = true ∧ SeqAt.shaped dy = true) ∧ P (.bool (PyData.eqv dx dy)) := by
    unfold fEq at hf
    split at hf
    · refine ⟨⟨shaped_int _, shaped_int _⟩, ?_⟩
      rw [eqv_int]
      exact hf
    · exact hf
  exact ⟨dx, dy, (hx.mono e).dp, (hy.mono e).dp, main.1.1, main.1.2, keep e k (.bl _) main.2⟩
theorem vs_ne : VSim K (rNeD K) (fEq true) := by
  intro x y dx dy G H Q P e hx hy hf k
  have main : (SeqAt.shaped dx = true ∧ SeqAt.shaped dy = true) ∧ P (.bool (!PyData.eqv dx dy)) := by
    unfold fEq at hf
    split at hf
    · refine ⟨⟨shaped_int _, shaped_int _⟩, ?_⟩
      rw [eqv_int]
      exact hf
    · exact hf
  exact ⟨dx, dy, (hx.mono e).dp, (hy.mono e).dp, main.1.1, main.1.2, keep e k (.bl _) main.2⟩
/-- is, is not: one side is None, True or False -/
def rIsC (neg : Bool) : R2 := fun x y H Q => (y = .non ∨ ∃ b, y = .bl b) ∧ Q (.bl (if neg then !decide (x = y) else decide (x = y))) H
theorem rel_plain {x : V} {v : Value} (r : RelV x v) : (plainIs v .none = true ∧ ∀ b, plainIs v (.bool b) = true) ∧ ((v == Value.none) = decide (x = .non)) ∧ ∀ b, (v == Value.bool b) = decide (x = .bl b) := by
  cases x with
  | non => cases r; exact ⟨⟨rfl, fun _ => rfl⟩, rfl, fun _ => rfl⟩
  | bl c => cases r; exact ⟨⟨rfl, fun _ => rfl⟩, rfl, fun b => by cases b <;> cases c <;> rfl⟩
  | int _ => obtain ⟨t, rfl⟩ := r; exact ⟨⟨rfl, fun _ => rfl⟩, rfl, fun _ => rfl⟩
  | str _ => obtain ⟨t, rfl⟩ := r; exact ⟨⟨rfl, fun _ => rfl⟩, rfl, fun _ => rfl⟩
  | byt _ => obtain ⟨t, rfl⟩ := r; exact ⟨⟨rfl, fun _ => rfl⟩, rfl, fun _ => rfl⟩
  | flt _ => obtain ⟨t, rfl⟩ := r; exact ⟨⟨rfl, fun _ => rfl⟩, rfl, fun _ => rfl⟩
  | ref _ => cases r; exact ⟨⟨rfl, fun _ => rfl⟩, rfl, fun _ => rfl⟩
  | ty _ => cases r; exact ⟨⟨rfl, fun _ => rfl⟩, rfl, fun _ => rfl⟩
theorem op_isC : OpR X (compareOp .Is) (rIsC false) := by
  intro pins s σ H x y v u Q I rx ry h
  obtain ⟨hy, q⟩ := h
  obtain ⟨⟨p1, p2⟩, e1, e2⟩ := rel_plain rx
  rcases hy with rfl | ⟨b, rfl⟩
  · cases (show u = Value.none from ry)
    exact wpAny_is_plain p1 ⟨.bl _, H, I, (by rw [e1]; rfl), q⟩
  · cases (show u = Value.bool b from ry)
    exact wpAny_is_plain (p2 b) ⟨.bl _, H, I, (by rw [e2 b]; rfl), q⟩
theorem op_isnotC : OpR X (compareOp .IsNot) (rIsC true) := by
  intro pins s σ H x y v u Q I rx ry h
  obtain ⟨hy, q⟩ := h
  obtain ⟨⟨p1, p2⟩, e1, e2⟩ := rel_plain rx
  rcases hy with rfl | ⟨b, rfl⟩
  · cases (show u = Value.none from ry)
    exact wpAny_isNot_plain p1 ⟨.bl _, H, I, (by rw [e1]; rfl), q⟩
  · cases (show u = Value.bool b from ry)
    exact wpAny_isNot_plain (p2 b) ⟨.bl _, H, I, (by rw [e2 b]; rfl), q⟩
def isD : PyData → PyData → Bool
  | .none, .none => true
  | .bool a, .bool b => decide (a = b)
  | _, _ => false
def fIs (neg : Bool) : PyData → PyData → (PyData → Prop) → Prop := fun x y P => match y with
  | .none => P (.bool (if neg then !isD x .none else isD x .none))
  | .bool b => P (.bool (if neg then !isD x (.bool b) else isD x (.bool b)))
  | _ => False
theorem dv_is {G : Hp} {x : V} {d : PyData} (h : Dv K G x d) : decide (x = .non) = isD d .none ∧ ∀ b, decide (x = .bl b) = isD d (.bool b) := by
  cases h with
  | non => exact ⟨rfl, fun _ => rfl⟩
  | bl c => exact ⟨rfl, fun b => by cases b <;> cases c <;> rfl⟩
  | int _ => exact ⟨rfl, fun _ => rfl⟩
  | str _ => exact ⟨rfl, fun _ => rfl⟩
  | lst _ _ => exact ⟨rfl, fun _ => rfl⟩
  | tup _ _ => exact ⟨rfl, fun _ => rfl⟩
theorem vs_is {neg : Bool} : VSim K (rIsC neg) (fIs neg) := by
  intro x y dx dy G H Q P e hx hy hf k
  obtain ⟨e1, e2⟩ := dv_is hx
  unfold fIs at hf
  split at hf
  · rw [hy.non_inv]
    refine ⟨.inl rfl, ?_⟩
    rw [e1]
    exact keep e k (.bl _) hf
  · rw [hy.bool_inv]
    refine ⟨.inr ⟨_, rfl⟩, ?_⟩
    rw [e2]
    exact keep e k (.bl _) hf
  · exact hf.elim
/-! ### in -/
def flatD : PyData → Bool
  | .none => true
  | .bool _ => true
  | .int _ => true
  | .str _ => true
  | _ => false
def elemD (x : PyData) (ds : List PyData) : Bool := ds.any fun z => PyData.eqv z x
def fIn (neg : Bool) : PyData → PyData → (PyData → Prop) → Prop := fun x y P => match y with
  | .list ds => (flatD x = true ∧ ds.all flatD = true) ∧ P (.bool (if neg then !elemD x ds else elemD x ds))
  | .tuple ds => (flatD x = true ∧ ds.all flatD = true) ∧ P (.bool (if neg then !elemD x ds else elemD x ds))
  | _ => False
theorem flat_eq {G : Hp} {x y : V} {d e : PyData} (h : Dv K G x d) (h' : Dv K G y e) (f : flatD d = true) (f' : flatD e = true) : flatV x = true ∧ eqV x y = PyData.eqv d e := by
  cases h <;> first | (cases f; done) | (cases h' <;> first | (cases f'; done) | exact ⟨rfl, by simp only [PyData.eqv, eqV]⟩)
theorem flat_any {G : Hp} {x : V} {d : PyData} (h : Dv K G x d) (f : flatD d = true) : ∀ {vs : List V} {ds : List PyData}, Dvs K G vs ds → ds.all flatD = true → vs.all flatV = true ∧ inV x vs = elemD d ds
  | _, _, .nil, _ => ⟨rfl, rfl⟩
  | _, _, .cons h1 r, g => by
    simp only [List.all_cons, Bool.and_eq_true] at g
    obtain ⟨q1, q2⟩ := flat_any h f r g.2
    obtain ⟨q3, q4⟩ := flat_eq h1 h g.1 f
    refine ⟨by simp [List.all_cons, q1, q3], ?_⟩
    unfold inV elemD at q2 ⊢
    rw [List.any_cons, List.any_cons, q2, q4]
theorem vs_in {neg : Bool} : VSim K (rIn K neg) (fIn neg) := by
  intro x y dx dy G H Q P e hx hy hf k
  unfold fIn at hf
  split at hf
  · obtain ⟨a, xs, rfl, ha, qa⟩ := hy.list_inv
    obtain ⟨f1, f2⟩ := flat_any hx hf.1.1 qa hf.1.2
    refine ⟨a, xs, rfl, .inl (.inl (.inl (e _ _ ha))), (flat_eq hx hx hf.1.1 hf.1.1).1, f1, ?_⟩
    rw [f2]
    exact keep e k (.bl _) hf.2
  · obtain ⟨a, xs, rfl, ha, qa⟩ := hy.tuple_inv
    obtain ⟨f1, f2⟩ := flat_any hx hf.1.1 qa hf.1.2
    refine ⟨a, xs, rfl, .inr (Evl.ex_t e ha), (flat_eq hx hx hf.1.1 hf.1.1).1, f1, ?_⟩
    rw [f2]
    exact keep e k (.bl _) hf.2
  · exact hf.elim
/-! ### places, slices -/
def fIx : PyData → PyData → (PyData → Prop) → Prop := fun x y P => match x, y with
  | .list ds, .int i => ∃ d, atI ds i = some d ∧ P d
  | .tuple ds, .int i => ∃ d, atI ds i = some d ∧ P d
  | .str z, .int i => ∃ c, z.length ≤ sizeLine ∧ atI z.cps.toList i = some c ∧ P (.str ⟨#[c]⟩)
  | _, _ => False
theorem Dvs.atI {G : Hp} {vs : List V} {ds : List PyData} {i : Int} {d : PyData} (h : Dvs K G vs ds) (e : atI ds i = some d) : ∃ v, L2.atI vs i = some v ∧ Dv K G v d := by
  unfold L2.atI at e ⊢
  rw [h.length]
  cases q : ixN ds.length i with
  | none => rw [q] at e; cases e
  | some j =>
    rw [q] at e
    exact h.at_ e
theorem vs_ix : VSim K (rIx K) fIx := by
  intro x y dx dy G H Q P e hx hy hf k
  unfold fIx at hf
  split at hf
  · obtain ⟨a, xs, rfl, ha, qa⟩ := hx.list_inv
    obtain ⟨d, h1, h2⟩ := hf
    obtain ⟨v, h3, h4⟩ := qa.atI h1
    rw [hy.int_inv]
    exact .inl ⟨a, xs, _, v, rfl, rfl, .inl (.inl (e _ _ ha)), h3, keep e k h4 h2⟩
  · obtain ⟨a, xs, rfl, ha, qa⟩ := hx.tuple_inv
    obtain ⟨d, h1, h2⟩ := hf
    obtain ⟨v, h3, h4⟩ := qa.atI h1
    rw [hy.int_inv]
    exact .inr (.inl ⟨a, xs, _, v, rfl, rfl, Evl.ex_t e ha, h3, keep e k h4 h2⟩)
  · obtain ⟨c, h0, h1, h2⟩ := hf
    rw [hx.str_inv, hy.int_inv]
    exact .inr (.inr ⟨_, _, c, rfl, rfl, h0, h1, keep e k (.str _) h2⟩)
  · exact hf.elim
def rSl2 (K : PySem.W.Frag) : V → Option Int → Option Int → Hp → VK → Prop := fun x lo hi H Q => rSlL K x lo hi H Q ∨ rSlA K x lo hi H Q
theorem sl_2 : SlR X (rSl2 X.K) := sl_list.or sl_tupA
def fSl : PyData → Option Int → Option Int → (PyData → Prop) → Prop := fun x lo hi P => match x with
  | .list ds => P (.list (cutD ds lo hi))
  | .tuple ds => P (.tuple (cutD ds lo hi))
  | _ => False
theorem cutD_whole {ds : List PyData} {lo hi : Option Int} (h : HT.sIx ds.length 0 lo = 0 ∧ HT.sIx ds.length ds.length hi = ds.length) : cutD ds lo hi = ds := by
  unfold cutD
  rw [h.1, h.2]
  simp
theorem ss_sl : SSim K (rSl2 K) fSl := by
  intro x dx lo hi G H Q P e hx hf k
  unfold fSl at hf
  split at hf
  · obtain ⟨a, xs, rfl, ha, qa⟩ := hx.list_inv
    refine .inl ⟨a, xs, rfl, .inl (.inl (e _ _ ha)), fun p hp => ?_⟩
    exact k _ _ _ _ (Grow.one e hp) (.lst upd_same ((qa.cut lo hi).mono (Ex.new (ex_none e hp)))) hf
  · obtain ⟨a, xs, rfl, ha, qa⟩ := hx.tuple_inv
    refine .inr ⟨a, xs, rfl, Evl.ex_t e ha, fun z => ?_, fun _ p hp => ?_⟩
    · rw [qa.length] at z
      rw [cutD_whole z] at hf
      exact keep e k hx hf
    · exact k _ _ _ _ (Grow.one e hp) (.tup (.inl (.inl upd_same)) ((qa.cut lo hi).mono (Ex.new (ex_none e hp)))) hf
  · exact hf.elim
/-! ### built-ins -/
def fLen : List PyData → (PyData → Prop) → Prop := fun xs P => match xs with
  | [.list ds] => P (.int ds.length)
  | [.tuple ds] => P (.int ds.length)
  | [.str z] => z.length ≤ sizeLine ∧ P (.int z.length)
  | _ => False
abbrev rLenA (K : PySem.W.Frag) : List V → Hp → VK → Prop := fun xs H Q => ∃ x n, xs = [x] ∧ LenV K x H n ∧ Q (.int n) H
theorem cs_len : CSim K (rLenA K) fLen := by
  intro xs dx G H Q P e hx hf k
  unfold fLen at hf
  split at hf
  · cases hx with
    | cons h r =>
      cases r
      obtain ⟨a, ys, rfl, ha, qa⟩ := h.list_inv
      exact ⟨_, ys.length, rfl, .inl ⟨ys, .inl (.inl (e _ _ ha)), rfl⟩, by rw [qa.length]; exact keep e k (.int _) hf⟩
  · cases hx with
    | cons h r =>
      cases r
      obtain ⟨a, ys, rfl, ha, qa⟩ := h.tuple_inv
      exact ⟨_, ys.length, rfl, .inr ⟨ys, Evl.ex_t e ha, rfl⟩, by rw [qa.length]; exact keep e k (.int _) hf⟩
  · cases hx with
    | cons h r =>
      cases r
      rw [h.str_inv]
      exact ⟨_, _, rfl, ⟨hf.1, rfl⟩, keep e k (.int _) hf.2⟩
  · exact hf.elim
def fAbs : List PyData → (PyData → Prop) → Prop := fun xs P => match xs with
  | [.int i] => P (.int (if i < 0 then -i else i))
  | _ => False
theorem cs_abs : CSim K (fun xs H Q => ∃ i, xs = [.int i] ∧ Q (.int (if i < 0 then -i else i)) H) fAbs := by
  intro xs dx G H Q P e hx hf k
  unfold fAbs at hf
  split at hf
  · cases hx with
    | cons h r =>
      cases r
      rw [h.int_inv]
      exact ⟨_, rfl, keep e k (.int _) hf⟩
  · exact hf.elim
def fIntOf : List PyData → (PyData → Prop) → Prop := fun xs P => match xs with
  | [.int i] => P (.int i)
  | [.bool b] => P (.int (if b then 1 else 0))
  | _ => False
theorem cs_int : CSim K (fun xs H Q => (∃ i, xs = [.int i] ∧ Q (.int i) H) ∨ ∃ k, xs = [.bl k] ∧ Q (.int (if k then 1 else 0)) H) fIntOf := by
  intro xs dx G H Q P e hx hf k
  unfold fIntOf at hf
  split at hf
  · cases hx with
    | cons h r =>
      cases r
      rw [h.int_inv]
      exact .inl ⟨_, rfl, keep e k (.int _) hf⟩
  · cases hx with
    | cons h r =>
      cases r
      rw [h.bool_inv]
      exact .inr ⟨_, rfl, keep e k (.int _) hf⟩
  · exact hf.elim
def fTwo (g : Int → Int → Int) : List PyData → (PyData → Prop) → Prop := fun xs P => match xs with
  | [.int i, .int j] => P (.int (g i j))
  | _ => False
theorem cs_max2 : CSim K (fun xs H Q => ∃ i j, xs = [.int i, .int j] ∧ Q (.int (if j > i then j else i)) H) (fTwo max) := by
  intro xs dx G H Q P e hx hf k
  unfold fTwo at hf
  split at hf
  · rename_i i j
    cases hx with
    | cons h r =>
      cases r with
      | cons h' r =>
        cases r
        rw [h.int_inv, h'.int_inv]
        refine ⟨_, _, rfl, ?_⟩
        have e2 : (if j > i then j else i) = max i j := by omega
        rw [e2]
        exact keep e k (.int _) hf
  · exact hf.elim
theorem cs_min2 : CSim K (fun xs H Q => ∃ i j, xs = [.int i, .int j] ∧ Q (.int (if j < i then j else i)) H) (fTwo min) := by
  intro xs dx G H Q P e hx hf k
  unfold fTwo at hf
  split at hf
  · rename_i i j
    cases hx with
    | cons h r =>
      cases r with
      | cons h' r =>
        cases r
        rw [h.int_inv, h'.int_inv]
        refine ⟨_, _, rfl, ?_⟩
        have e2 : (if j < i then j else i) = min i j := by omega
        rw [e2]
        exact keep e k (.int _) hf
  · exact hf.elim
/-- a list of ints in -/
theorem one_ints {G H : Hp} {xs : List V} {ns : List Int} (e : Ex G H) (h : Dvs K G xs [.list (iL ns)]) : ∃ a, xs = [.ref a] ∧ SqL K H a (ns.map V.int) := by
  cases h with
  | cons h r =>
    cases r
    obtain ⟨a, ys, rfl, ha, qa⟩ := h.list_inv
    rw [qa.toInts] at ha
    exact ⟨a, rfl, .inl (.inl (e _ _ ha))⟩
def fSum : List PyData → (PyData → Prop) → Prop := fun xs P => ∃ ns : List Int, xs = [.list (iL ns)] ∧ P (.int ns.sum)
theorem cs_sum : CSim K (rSum K) fSum := by
  intro xs dx G H Q P e hx hf k
  obtain ⟨ns, rfl, hp⟩ := hf
  obtain ⟨a, rfl, ha⟩ := one_ints e hx
  exact ⟨a, ns, rfl, ha, keep e k (.int _) hp⟩
def fMaxL : List PyData → (PyData → Prop) → Prop := fun xs P => ∃ ns : List Int, xs = [.list (iL ns)] ∧ 0 < ns.length ∧ ∀ m, m ∈ ns → (∀ y ∈ ns, y ≤ m) → P (.int m)
def fMinL : List PyData → (PyData → Prop) → Prop := fun xs P => ∃ ns : List Int, xs = [.list (iL ns)] ∧ 0 < ns.length ∧ ∀ m, m ∈ ns → (∀ y ∈ ns, m ≤ y) → P (.int m)
theorem cs_maxL : CSim K (rMax K) fMaxL := by
  intro xs dx G H Q P e hx hf k
  obtain ⟨ns, rfl, hl, hp⟩ := hf
  obtain ⟨a, rfl, ha⟩ := one_ints e hx
  exact ⟨a, ns, rfl, ha, hl, fun m h1 h2 => keep e k (.int _) (hp m h1 h2)⟩
theorem cs_minL : CSim K (rMin K) fMinL := by
  intro xs dx G H Q P e hx hf k
  obtain ⟨ns, rfl, hl, hp⟩ := hf
  obtain ⟨a, rfl, ha⟩ := one_ints e hx
  exact ⟨a, ns, rfl, ha, hl, fun m h1 h2 => keep e k (.int _) (hp m h1 h2)⟩
def fSort : List PyData → (List PyData → Prop) → Prop := fun xs P => ∃ ns : List Int, xs = [.list (iL ns)] ∧ ∀ ns' : List Int, ns'.Perm ns → ns'.Pairwise (· ≤ ·) → P (iL ns')
theorem cn_sort : CSimN K (rSortedI K) fSort := by
  intro xs dx G H Q P e hx hf k
  obtain ⟨ns, rfl, hp⟩ := hf
  obtain ⟨a, rfl, ha⟩ := one_ints e hx
  exact ⟨a, ns, rfl, ha, fun ns' p h1 h2 h3 => k p _ _ h3 (Dvs.of_ints ns') (hp ns' h1 h2)⟩
def fAll (g : List Bool → Bool) : List PyData → (PyData → Prop) → Prop := fun xs P => ∃ bs : List Bool, xs = [.list (bs.map PyData.bool)] ∧ P (.bool (g bs))
theorem one_bools {G H : Hp} {xs : List V} {bs : List Bool} (e : Ex G H) (h : Dvs K G xs [.list (bs.map PyData.bool)]) : ∃ a, xs = [.ref a] ∧ SqL K H a (bs.map V.bl) := by
  cases h with
  | cons h r =>
    cases r
    obtain ⟨a, ys, rfl, ha, qa⟩ := h.list_inv
    rw [qa.bools] at ha
    exact ⟨a, rfl, .inl (.inl (e _ _ ha))⟩
theorem cs_all : CSim K (rAll K) (fAll fun bs => bs.all id) := by
  intro xs dx G H Q P e hx hf k
  obtain ⟨bs, rfl, hp⟩ := hf
  obtain ⟨a, rfl, ha⟩ := one_bools e hx
  exact ⟨a, bs, rfl, ha, keep e k (.bl _) hp⟩
theorem cs_any : CSim K (rAny K) (fAll fun bs => bs.any id) := by
  intro xs dx G H Q P e hx hf k
  obtain ⟨bs, rfl, hp⟩ := hf
  obtain ⟨a, rfl, ha⟩ := one_bools e hx
  exact ⟨a, bs, rfl, ha, keep e k (.bl _) hp⟩
def fTupOf : List PyData → (PyData → Prop) → Prop := fun xs P => match xs with
  | [.list ds] => P (.tuple ds)
  | [.tuple ds] => P (.tuple ds)
  | _ => False
theorem cs_tuple : CSim K (fun xs H Q => ∃ p ys, xs = [.ref p] ∧ ((SqL K H p ys ∧ ∀ l, H l = none → Q (.ref l) (upd H l (.tup ys))) ∨ (SqT K H p ys ∧ Q (.ref p) H))) fTupOf := by
  intro xs dx G H Q P e hx hf k
  unfold fTupOf at hf
  split at hf
  · cases hx with
    | cons h r =>
      cases r
      obtain ⟨a, ys, rfl, ha, qa⟩ := h.list_inv
      exact ⟨a, ys, rfl, .inl ⟨.inl (.inl (e _ _ ha)), fun l hl => k _ _ _ _ (Grow.one e hl) (.tup (.inl (.inl upd_same)) (qa.mono (Ex.new (ex_none e hl)))) hf⟩⟩
  · cases hx with
    | cons h r =>
      cases r
      obtain ⟨a, ys, rfl, ha, qa⟩ := h.tuple_inv
      exact ⟨a, ys, rfl, .inr ⟨Evl.ex_t e ha, keep e k (.tup ha qa) hf⟩⟩
  · exact hf.elim
def fListOf : List PyData → (List PyData → Prop) → Prop := fun xs P => match xs with
  | [.list ds] => P ds
  | [.tuple ds] => P ds
  | _ => False
theorem cn_list : CSimN K (fun xs H Q => ∃ p ys, xs = [.ref p] ∧ (SqL K H p ys ∨ SqT K H p ys) ∧ ∀ l, H l = none → Q (.ref l) (upd H l (.lst ys))) fListOf := by
  intro xs dx G H Q P e hx hf k
  unfold fListOf at hf
  split at hf
  · cases hx with
    | cons h r =>
      cases r
      obtain ⟨a, ys, rfl, ha, qa⟩ := h.list_inv
      exact ⟨a, ys, rfl, .inl (.inl (.inl (e _ _ ha))), fun l hl => k l _ _ hl qa hf⟩
  · cases hx with
    | cons h r =>
      cases r
      obtain ⟨a, ys, rfl, ha, qa⟩ := h.tuple_inv
      exact ⟨a, ys, rfl, .inr (Evl.ex_t e ha), fun l hl => k l _ _ hl qa hf⟩
  · exact hf.elim
/-! ### isinstance -/
def tyD : PyData → String
  | .none => "NoneType"
  | .bool _ => "bool"
  | .int _ => "int"
  | .str _ => "str"
  | .list _ => "list"
  | .tuple _ => "tuple"
  | .dict _ => "dict"
def isTy (T : String) (d : PyData) : Bool := T == tyD d || (T == "int" && tyD d == "bool")
theorem dv_ty {G H : Hp} {x : V} {d : PyData} (e : Ex G H) (h : Dv K G x d) : TyX K H x (.type (tyD d)) := by
  cases h with
  | non => exact .base .non
  | bl b => exact .base (.bl b)
  | int i => exact .base (.int i)
  | str x => exact .base (.str x)
  | lst h _ => exact .base (.lst (e _ _ h))
  | tup h _ =>
    rcases h with h | ⟨o, its, n, hk, hc, _⟩
    · rcases h with h | ⟨o, h⟩
      · exact .base (.tup (e _ _ h))
      · exact .fTuple (e _ _ h)
    · exact .kTuple hk hc
theorem kit_is (T : String) (hT : T = "int" ∨ T = "bool" ∨ T = "str" ∨ T = "list" ∨ T = "tuple" ∨ T = "dict") (d : PyData) : kitB (tyD d) T = some (isTy T d) := by
  rcases hT with rfl | rfl | rfl | rfl | rfl | rfl <;> cases d <;> first | rfl | (simp only [tyD, isTy]; decide +kernel)
def dIsi (T : String) (da : DE) : DE := ⟨fun E P => da E fun x => P (.bool (isTy T x)), da.cost⟩
/-- isinstance(e, T) -/
theorem pd_isi {e : Expr} {T : String} {TS : Str} {te : TE} {de : DE} {p p2 pos : Pos} (hi : Gl X "isinstance") (hm : X.mg "isinstance" = none) (hg : Gl X TS) (hmT : X.mg TS = none) (hv : bootBuiltins TS = some (.type T))
    (hT : T = "int" ∨ T = "bool" ∨ T = "str" ∨ T = "list" ∨ T = "tuple" ∨ T = "dict") (he : PD X K e te de) (hn : TS ≠ "__name__" := by decide) (hd : (TS == ("__debug__" : Str)) = false := by decide)
    (hs : starEach (e :: [.Name TS p2]) X.env = (false, eval e X.env) :: starEach [.Name TS p2] X.env := by rfl) (hpl : (backTo pos (starEach [.Name TS p2] X.env)).any (·.1) = false := by rfl)
    (hs0 : starEach (.Name TS p2 :: []) X.env = (false, eval (.Name TS p2) X.env) :: starEach [] X.env := by rfl) (hK : X.K = K := by rfl) :
    PD X K (.Call (.Name "isinstance" p) [e, .Name TS p2] [] pos) (tCB (rIsi K) (tCons te (tCons (tC (.ty T)) tNil))) (dIsi T de) := by
  subst hK
  refine ⟨pe_callB call_isi hi hm boot_isinstance (pa_cons he.pe (pa_cons (pe_bltn hg hmT hv rfl hn hd) pa_nil hs0) hs) (he := hs) (hpl := hpl), ?_⟩
  intro bu σ H G R E Q P r0 hd k
  refine he.sim _ σ H G R E _ _ r0 hd fun v d H1 G1 l1 r1 hx hd1 => ?_
  exact ⟨v, .ty T, _, _, isTy T d, rfl, .ty T, dv_ty r1.gh hx, kit_ty (kit_is T hT d), k _ _ H1 G1 l1 r1 (.bl _) hd1⟩
end
end DL

namespace DL
open PySem PySem.Spec PyProof.Rows L2
open Evl (Ex)
/-! ### statements -/
structure DEnds where
  nx : Env → Prop
  rt : PyData → Env → Prop
  bk : Env → Prop := fun _ => False
  ct : Env → Prop := fun _ => False
  /-- what is wished of what is raised; what is raised -/
  wx : XK := fun _ _ _ => False
  rx : Addr → List (Str × V) → Prop := fun _ _ => False
structure DS where
  run : DEnds → Env → Prop
  cost : Nat := 0
instance : CoeFun DS (fun _ => DEnds → Env → Prop) := ⟨DS.run⟩
structure EndsOk (K : PySem.W.Frag) (bu : Nat) (G R : Hp) (DD : DEnds) (D : Ends) : Prop where
  nx : ∀ σ H G' E, Le R G G' → Rel K bu σ H G' R E → DD.nx E → D.nx σ H
  rt : ∀ v d σ H G' E, Le R G G' → Rel K bu σ H G' R E → Dv K G' v d → DD.rt d E → D.rt v H
  bk : ∀ σ H G' E, Le R G G' → Rel K bu σ H G' R E → DD.bk E → D.bk σ H
  ct : ∀ σ H G' E, Le R G G' → Rel K bu σ H G' R E → DD.ct E → D.ct σ H
  rx : ∀ C fs d σ H G' E, Le R G G' → Rel K bu σ H G' R E → XdOk G' d fs → DD.rx C fs → DD.wx (.ref C) d H
theorem EndsOk.mono {K : PySem.W.Frag} {bu : Nat} {G G1 R : Hp} {DD : DEnds} {D : Ends} (l : Le R G G1) (h : EndsOk K bu G R DD D) : EndsOk K bu G1 R DD D :=
  ⟨fun σ H G' E l' => h.nx σ H G' E (l.trans l'), fun v d σ H G' E l' => h.rt v d σ H G' E (l.trans l'), fun σ H G' E l' => h.bk σ H G' E (l.trans l'), fun σ H G' E l' => h.ct σ H G' E (l.trans l'), fun C fs d σ H G' E l' => h.rx C fs d σ H G' E (l.trans l')⟩
theorem EndsOk.dn {K : PySem.W.Frag} {b b' : Nat} {G R : Hp} {DD : DEnds} {D : Ends} (h : EndsOk K b' G R DD D) (e : b' ≤ b) : EndsOk K b G R DD D :=
  ⟨fun σ H G' E l' r => h.nx σ H G' E l' (r.dn e), fun v d σ H G' E l' r => h.rt v d σ H G' E l' (r.dn e), fun σ H G' E l' r => h.bk σ H G' E l' (r.dn e), fun σ H G' E l' r => h.ct σ H G' E l' (r.dn e), fun C fs d σ H G' E l' r => h.rx C fs d σ H G' E l' (r.dn e)⟩
def SimS (K : PySem.W.Frag) (ts : TS) (ds : DS) : Prop := ∀ (bu : Nat) (DD : DEnds) (D : Ends) (σ : L2.St) (H G R : Hp) (E : Env), Rel K (bu + ds.cost) σ H G R E → ds DD E → EndsOk K bu G R DD D → ts D σ H
structure PSD (X : Cx) (K : PySem.W.Frag) (st : Stmt) (ts : TS) (ds : DS) : Prop where
  ps : PS X st ts
  sim : SimS K ts ds
structure PSsD (X : Cx) (K : PySem.W.Frag) (sts : List Stmt) (ts : TS) (ds : DS) : Prop where
  ps : PSs X sts ts
  sim : SimS K ts ds
section
variable {X : Cx} {K : PySem.W.Frag} {te ta tb : TE} {de da db : DE} {dn dn' : DN} {t u : TS} {d d' : DS}
def dNext : DS := ⟨fun DD E => DD.nx E, 0⟩
theorem sims_next : SimS K tNext dNext := fun _ _ _ σ H G R E r hd k => k.nx σ H G E (Le.refl R G) r hd
def dSeq (d d' : DS) : DS := ⟨fun DD E => d { DD with nx := d' DD } E, d.cost + d'.cost⟩
theorem sims_seq (h : SimS K t d) (h' : SimS K u d') : SimS K (tSeq t u) (dSeq d d') := fun bu DD D σ H G R E r hd k =>
  h _ { DD with nx := d' DD } { D with nx := u D } σ H G R E r.two hd ⟨fun σ H G' E l r hd => h' _ DD D σ H G' R E r hd (k.mono l), (k.dn (Nat.le_add_right ..)).rt, (k.dn (Nat.le_add_right ..)).bk, (k.dn (Nat.le_add_right ..)).ct, (k.dn (Nat.le_add_right ..)).rx⟩
/-- with a word of one's own between -/
def dCut (d d' : DS) : DS := ⟨fun DD E => ∃ M : Env → Prop, d { DD with nx := M } E ∧ ∀ E', M E' → d' DD E', d.cost + d'.cost⟩
theorem sims_cut (h : SimS K t d) (h' : SimS K u d') : SimS K (tSeq t u) (dCut d d') := fun bu DD D σ H G R E r hd k => by
  obtain ⟨M, h1, h2⟩ := hd
  exact h _ { DD with nx := M } { D with nx := u D } σ H G R E r.two h1 ⟨fun σ H G' E l r hd => h' _ DD D σ H G' R E r (h2 E hd) (k.mono l), (k.dn (Nat.le_add_right ..)).rt, (k.dn (Nat.le_add_right ..)).bk, (k.dn (Nat.le_add_right ..)).ct, (k.dn (Nat.le_add_right ..)).rx⟩
/-- a list of our own is frozen ahead -/
def dFrzS (i : Nat) (d : DS) : DS := ⟨fun DD E => match E[i]? with
  | some (.l xs) => d DD (E.set i (.d (.list xs)))
  | some (.d _) => d DD E
  | _ => False, d.cost⟩
theorem sims_frz {i : Nat} (h : SimS K t d) : SimS K t (dFrzS i d) := by
  intro bu DD D σ H G R E r hd k
  simp only [dFrzS] at hd
  split at hd
  · rename_i xs e
    obtain ⟨G', l, r'⟩ := r.freeze e
    exact h _ DD D σ H G' R _ r' hd (k.mono l)
  · exact h _ DD D σ H G R E r hd k
  · exact hd.elim
/-- name = data -/
def dSet (i : Nat) (de : DE) : DS := ⟨fun DD E => de E fun x => DD.nx (E.set i (.d x)), de.cost⟩
theorem sims_set {i : Nat} (h : Sim K te de) : SimS K (tAsg te (gName i)) (dSet i de) := fun bu DD D σ H G R E r hd k =>
  h _ σ H G R E _ _ r hd fun v d H' G' l r' hv hp => k.nx _ H' G' _ l (r'.set hv) hp
/-- name = a new list, our own from now on -/
def dSetN (i : Nat) (dn : DN) : DS := ⟨fun DD E => dn E fun xs => DD.nx (E.set i (.l xs)), dn.cost⟩
theorem sims_setN {i : Nat} (h : SimN K te dn) : SimS K (tAsg te (gName i)) (dSetN i dn) := fun bu DD D σ H G R E r hd k =>
  h _ σ H G R E _ _ r hd fun p us ds H' G' l hr hg r' hv hp => k.nx _ H' G' _ l (r'.setNew hr hg hv) hp
def dPar (i j : Nat) (da db : DE) : DS := ⟨fun DD E => da E fun x => db E fun y => DD.nx ((E.set i (.d x)).set j (.d y)), da.cost + db.cost⟩
theorem sims_par {i j : Nat} (h : Sim K ta da) (h' : Sim K tb db) : SimS K (tPar i j (tCons ta (tCons tb tNil))) (dPar i j da db) := fun bu DD D σ H G R E r hd k =>
  h _ σ H G R E _ _ r.two hd fun v d H1 G1 l1 r1 hv hd1 => h' _ σ H1 G1 R E _ _ r1 hd1 fun v' d' H2 G2 l2 r2 hv' hp =>
    ⟨v, v', rfl, k.nx _ H2 G2 _ (l1.trans l2) ((r2.set (hv.mono l2.1)).set hv') hp⟩
/-- a, b = [], 0 -/
def dParN (i j : Nat) (dn : DN) (db : DE) : DS := ⟨fun DD E => dn E fun xs => db E fun y => DD.nx ((E.set i (.l xs)).set j (.d y)), dn.cost + db.cost⟩
theorem sims_parN {i j : Nat} (h : SimN K ta dn) (h' : Sim K tb db) : SimS K (tPar i j (tCons ta (tCons tb tNil))) (dParN i j dn db) := fun bu DD D σ H G R E r hd k => by
  refine h _ σ H G R E _ _ r.two hd fun p us ds H1 G1 l1 hr hg r1 hv hd1 => ?_
  refine h' _ σ H1 G1 _ E _ _ r1 hd1 fun v' d' H2 G2 l2 r2 hv' hp => ⟨_, v', rfl, ?_⟩
  have hg2 : G2 p = none := (l2.2 p (by rw [upd_same]; intro z; cases z)).trans hg
  exact k.nx _ H2 G2 _ (l1.trans (l2.less (Ex.new hr))) ((r2.setNew hr hg2 (hv.mono l2.1)).set hv') hp
/-- a, b = 0, [] -/
def dParM (i j : Nat) (da : DE) (dn : DN) : DS := ⟨fun DD E => da E fun x => dn E fun ys => DD.nx ((E.set i (.d x)).set j (.l ys)), da.cost + dn.cost⟩
theorem sims_parM {i j : Nat} (h : Sim K ta da) (h' : SimN K tb dn) : SimS K (tPar i j (tCons ta (tCons tb tNil))) (dParM i j da dn) := fun bu DD D σ H G R E r hd k => by
  refine h _ σ H G R E _ _ r.two hd fun v d H1 G1 l1 r1 hv hd1 => ?_
  refine h' _ σ H1 G1 R E _ _ r1 hd1 fun p us ds H2 G2 l2 hr hg r2 hv' hp => ⟨v, _, rfl, ?_⟩
  have q : Rel K bu (σ.set i (some v)) H2 G2 (upd R p (.lst us)) (E.set i (.d d)) := r2.set (hv.mono l2.1)
  exact k.nx _ H2 G2 _ (l1.trans l2) (q.setNew hr hg hv') hp
/-- both new -/
def dParNN (i j : Nat) (dn dn' : DN) : DS := ⟨fun DD E => dn E fun xs => dn' E fun ys => DD.nx ((E.set i (.l xs)).set j (.l ys)), dn.cost + dn'.cost⟩
theorem upd_comm {R : Hp} {p q : Addr} {o u : HO} (h : p ≠ q) : upd (upd R p o) q u = upd (upd R q u) p o := by
  funext a
  by_cases e1 : a = q
  · rw [e1, upd_same, upd_ne (Ne.symm h), upd_same]
  · rw [upd_ne e1]
    by_cases e2 : a = p
    · rw [e2, upd_same, upd_same]
    · rw [upd_ne e2, upd_ne e2, upd_ne e1]
theorem sims_parNN {i j : Nat} (h : SimN K ta dn) (h' : SimN K tb dn') : SimS K (tPar i j (tCons ta (tCons tb tNil))) (dParNN i j dn dn') := fun bu DD D σ H G R E r hd k => by
  refine h _ σ H G R E _ _ r.two hd fun p us ds H1 G1 l1 hr hg r1 hv hd1 => ?_
  refine h' _ σ H1 G1 _ E _ _ r1 hd1 fun q ws es H2 G2 l2 hr2 hg2 r2 hv' hp => ⟨_, _, rfl, ?_⟩
  have npq : p ≠ q := fun z => by
    rw [z, upd_same] at hr2
    cases hr2
  have hg3 : G2 p = none := (l2.2 p (by rw [upd_same]; intro z; cases z)).trans hg
  rw [upd_comm npq] at r2
  rw [upd_ne (Ne.symm npq)] at hr2
  have hrp : (upd R q (.lst ws)) p = none := by rw [upd_ne npq]; exact hr
  have a := (r2.setNew (i := i) hrp hg3 (hv.mono l2.1)).setNew (i := j) hr2 hg2 hv'
  exact k.nx _ H2 G2 _ (l1.trans (l2.less (Ex.new hr))) a hp
def dDrop (de : DE) : DS := ⟨fun DD E => de E fun _ => DD.nx E, de.cost⟩
theorem sims_drop (h : Sim K te de) : SimS K (tDrop te) (dDrop de) := fun bu DD D σ H G R E r hd k => h _ σ H G R E _ _ r hd fun v d H' G' l r' hv hp => k.nx _ H' G' _ l r' hp
def dRet (de : DE) : DS := ⟨fun DD E => de E fun x => DD.rt x E, de.cost⟩
theorem sims_ret (h : Sim K te de) : SimS K (tRet te) (dRet de) := fun bu DD D σ H G R E r hd k => h _ σ H G R E _ _ r hd fun v d H' G' l r' hv hp => k.rt v d σ H' G' E l r' hv hp
def dRetN : DS := ⟨fun DD E => DD.rt .none E, 0⟩
theorem sims_retN : SimS K tRetN dRetN := fun bu DD D σ H G R E r hd k => k.rt _ _ σ H G E (Le.refl R G) r .non hd
def dIfS (dt : DT) (d d' : DS) : DS := ⟨fun DD E => dt E fun b => Br b (d DD E) (d' DD E), dt.cost + (d.cost + d'.cost)⟩
theorem sims_if {tt : TT} {dt : DT} (h : SimT K tt dt) (h1 : SimS K t d) (h2 : SimS K u d') : SimS K (tIfS tt t u) (dIfS dt d d') := by
  intro bu DD D σ H G R E r hd k
  refine h _ σ H G R E _ _ r.two hd fun b H' G' l r' hp => ?_
  cases b with
  | true =>
    rw [if_pos rfl]
    exact h1 _ DD D σ H' G' R E r'.fst (hp.t rfl) (k.mono l)
  | false =>
    rw [if_neg Bool.false_ne_true]
    exact h2 _ DD D σ H' G' R E r'.snd (hp.f rfl) (k.mono l)
def dNever : DS := ⟨fun _ _ => False, 0⟩
theorem sims_never : SimS K tNever dNever := fun _ _ _ _ _ _ _ _ _ hd _ => hd.elim
def dBreak : DS := ⟨fun DD E => DD.bk E, 0⟩
def dCont : DS := ⟨fun DD E => DD.ct E, 0⟩
theorem sims_break : SimS K tBreak dBreak := fun _ _ _ σ H G R E r hd k => k.bk σ H G E (Le.refl R G) r hd
theorem sims_cont : SimS K tCont dCont := fun _ _ _ σ H G R E r hd k => k.ct σ H G E (Le.refl R G) r hd
/-- name op= e -/
def dAug (i : Nat) (f : PyData → PyData → (PyData → Prop) → Prop) (de : DE) : DS := ⟨fun DD E => match E[i]? with
  | some (.d a) => de E fun y => f a y fun z => DD.nx (E.set i (.d z))
  | _ => False, de.cost⟩
theorem sims_aug {i : Nat} {ti : TIp} {f : PyData → PyData → (PyData → Prop) → Prop} (h : Sim K te de) (hv : VSim K ti f) : SimS K (tAug i te ti) (dAug i f de) := by
  intro bu DD D σ H G R E r hd k
  simp only [dAug] at hd
  split at hd
  · rename_i a e
    obtain ⟨v, h1, h2⟩ := r.dat e
    refine ⟨_, h1, h _ σ H G R E _ _ r hd fun y dy H' G' l r' hy hp => ?_⟩
    exact hv v y a dy G' H' _ _ r'.gh (h2.mono l.1) hy hp fun z dz H2 G2 g hz hp2 => k.nx _ H2 G2 _ (l.trans (g.le r'.rh)) ((r'.grow g).set hz) hp2
  · exact hd.elim
theorem ip_of {op : Operator} {r : R2} (h : OpR X (inplaceOp op) r) : PIp X op r := h
def rIpAdd : R2 := fun x y H Q => (∃ i j, x = .int i ∧ y = .int j ∧ Q (.int (i + j)) H) ∨ (∃ i j, x = .str i ∧ y = .str j ∧ i.length + j.length ≤ sizeLine ∧ Q (.str (i ++ j)) H)
theorem ip_addA : PIp X .Add rIpAdd := ip_of (iop_add.or iop_add_str)
def fIpAdd : PyData → PyData → (PyData → Prop) → Prop := fun x y P => match x, y with
  | .int i, .int j => P (.int (i + j))
  | .str a, .str b => a.length + b.length ≤ sizeLine ∧ P (.str (a ++ b))
  | _, _ => False
theorem vs_ipAdd : VSim K rIpAdd fIpAdd := by
  intro x y dx dy G H Q P e hx hy hf k
  unfold fIpAdd at hf
  split at hf
  · rw [hx.int_inv, hy.int_inv]
    exact .inl ⟨_, _, rfl, rfl, keep e k (.int _) hf⟩
  · rw [hx.str_inv, hy.str_inv]
    exact .inr ⟨_, _, rfl, rfl, hf.1, keep e k (.str _) hf.2⟩
  · exact hf.elim
/-! ### our own lists -/
/-- xs.append(e) -/
def dApp (i : Nat) (de : DE) : DS := ⟨fun DD E => match E[i]? with
  | some (.l xs) => de E fun x => xs.length < sizeLine ∧ DD.nx (E.set i (.l (xs ++ [x])))
  | _ => False, de.cost⟩
theorem sims_app {i : Nat} (h : Sim K te de) : SimS K (tDrop (tBM K "list" rAppend (tVar i) (tCons te tNil))) (dApp i de) := by
  intro bu DD D σ H G R E r hd k
  simp only [dApp] at hd
  split at hd
  · rename_i xs e
    obtain ⟨a, us, h1, h2, h3⟩ := r.lst e
    refine ⟨_, h1, .inl ⟨rfl, us, .inl (.inl h2)⟩, h _ σ H G R E _ _ r hd fun y dy H' G' l r' hy hp => ?_⟩
    obtain ⟨a', us', h1', h2', h3'⟩ := r'.lst e
    rw [h1] at h1'
    cases h1'
    exact ⟨a, us', y, rfl, rfl, h2', by rw [h3'.length]; exact hp.1, k.nx _ _ G' _ l (r'.putL e h1 (h3'.append (.one hy))) hp.2⟩
  · exact hd.elim
/-- xs[e] = v: the value first -/
def dPutL (i : Nat) (di de : DE) : DS := ⟨fun DD E => match E[i]? with
  | some (.l xs) => de E fun x => di E fun y => match y with
    | .int z => ∃ j, ixN xs.length z = some j ∧ DD.nx (E.set i (.l (xs.set j x)))
    | _ => False
  | _ => False, de.cost + di.cost⟩
theorem sims_putL {i : Nat} {ti : TE} {di : DE} (hi : Sim K ti di) (h : Sim K te de) : SimS K (tAsg te (gSub (tVar i) ti rSetL)) (dPutL i di de) := by
  intro bu DD D σ H G R E r hd k
  simp only [dPutL] at hd
  split at hd
  · rename_i xs e
    refine h _ σ H G R E _ _ r.two hd fun v d H1 G1 l1 r1 hv hd1 => ?_
    obtain ⟨a, us, h1, h2, h3⟩ := r1.lst e
    refine ⟨_, h1, hi _ σ H1 G1 R E _ _ r1 hd1 fun y dy H2 G2 l2 r2 hy hd2 => ?_⟩
    cases dy with
    | int z =>
      obtain ⟨j, hj, hp⟩ := hd2
      obtain ⟨a', us', h1', h2', h3'⟩ := r2.lst e
      rw [h1] at h1'
      cases h1'
      rw [hy.int_inv]
      refine ⟨a, us', z, j, rfl, rfl, h2', by rw [h3'.length]; exact hj, ?_⟩
      exact k.nx _ _ G2 _ (l1.trans l2) (r2.putL e h1 (Dvs.set (hv.mono l2.1) j h3')) hp
    | _ => exact hd2.elim
  · exact hd.elim
/-- xs[i], by values, for xs[i] op= e -/
theorem get_list : PGet X (rIxL X.K) := by
  intro pins s σ H o i ov iv Q I ro ri h
  obtain ⟨p, xs, k, z, rfl, rfl, hq, he, q⟩ := h
  cases ro
  obtain ⟨t, rfl⟩ := ri
  obtain ⟨its, r, pl, hz⟩ := I.list hq
  obtain ⟨j, h1, h2, h3, h4, h5⟩ := atI_get he
  obtain ⟨w, ew, rw'⟩ := r.get h2
  have hl := r.length
  have hn := line63
  have fin : EP X pins σ Q w s := ⟨z, H, I, rw', q⟩
  by_cases h0 : 0 ≤ k
  · have hj : k.toNat = j := by
      rw [seqIndex_of h0 h5] at h1
      exact Option.some.inj h1
    exact wpAny_getItem_list pl.isList h0 (by omega) (by rw [hj]; simpa using ew) fin
  · have hj : (k + (its.toArray.size : Int)).toNat = j := by
      rw [seqIndex_neg (by omega) h4] at h1
      rw [List.size_toArray, ← hl]
      exact Option.some.inj h1
    exact wpAny_getItem_list_neg pl.isList (by omega) (by rw [List.size_toArray] <;> omega) (by omega) (by rw [hj]; simpa using ew) fin
/-- xs[i] op= e -/
def dAugL (i : Nat) (di : DE) (f : PyData → PyData → (PyData → Prop) → Prop) (de : DE) : DS := ⟨fun DD E => match E[i]? with
  | some (.l xs) => di E fun y => match y with
    | .int z => ∃ j x, ixN xs.length z = some j ∧ xs[j]? = some x ∧ de E fun b => f x b fun c => DD.nx (E.set i (.l (xs.set j c)))
    | _ => False
  | _ => False, di.cost + de.cost⟩
theorem sims_augL {i : Nat} {ti : TE} {di : DE} {tip : TIp} {f : PyData → PyData → (PyData → Prop) → Prop} (hi : Sim K ti di) (h : Sim K te de) (hv : VSim K tip f) : SimS K (tAugS (tVar i) ti te (rIxL K) tip rSetL) (dAugL i di f de) := by
  intro bu DD D σ H G R E r hd k
  simp only [dAugL] at hd
  split at hd
  · rename_i xs e
    obtain ⟨a, us, h1, h2, h3⟩ := r.lst e
    refine ⟨_, h1, hi _ σ H G R E _ _ r.two hd fun y dy H1 G1 l1 r1 hy hd1 => ?_⟩
    cases dy with
    | int z =>
      obtain ⟨j, x, hj, hx, hd1⟩ := hd1
      obtain ⟨a', us1, h1', h2', h3'⟩ := r1.lst e
      rw [h1] at h1'
      cases h1'
      rw [hy.int_inv]
      obtain ⟨w, hw, dw⟩ := h3'.at_ hx
      refine ⟨a, us1, z, w, rfl, rfl, .inl (.inl h2'), by unfold atI; rw [h3'.length, hj]; exact hw, ?_⟩
      refine h _ σ H1 G1 R E _ _ r1 hd1 fun b db H2 G2 l2 r2 hb hd2 => ?_
      refine hv w b x db G2 H2 _ _ r2.gh (dw.mono l2.1) hb hd2 fun c dc H3 G3 g hc hp => ?_
      have r3 := r2.grow g
      obtain ⟨a', us3, h1', h2', h3'⟩ := r3.lst e
      rw [h1] at h1'
      cases h1'
      exact ⟨a, us3, z, j, rfl, rfl, h2', by rw [h3'.length]; exact hj, k.nx _ _ G3 _ ((l1.trans l2).trans (g.le r2.rh)) (r3.putL e h1 (Dvs.set hc j h3')) hp⟩
    | _ => exact hd1.elim
  · exact hd.elim
/-- a list of our own (or a frozen one) is looked at -/
def seen (E : Env) (i : Nat) (P : List PyData → Prop) : Prop := match E[i]? with
  | some (.l xs) => P xs
  | some (.d (.list xs)) => P xs
  | _ => False
theorem Rel.seen {σ : L2.St} {H G R : Hp} {E : Env} {i : Nat} {P : List PyData → Prop} (r : Rel K bu σ H G R E) (h : seen E i P) : ∃ a us xs, σ[i]? = some (some (.ref a)) ∧ H a = some (.lst us) ∧ Dvs K G us xs ∧ P xs ∧ (E[i]? = some (.l xs) ∨ E[i]? = some (.d (.list xs))) := by
  unfold DL.seen at h
  split at h
  · rename_i xs e
    obtain ⟨a, us, h1, h2, h3⟩ := r.lst e
    exact ⟨a, us, xs, h1, h2, h3, h, .inl e⟩
  · rename_i xs e
    obtain ⟨v, h1, h2⟩ := r.dat e
    obtain ⟨a, us, rfl, h3, h4⟩ := h2.list_inv
    exact ⟨a, us, xs, h1, r.gh _ _ h3, h4, h, .inr e⟩
  · exact h.elim
theorem Rel.still {σ : L2.St} {H G R : Hp} {E : Env} {i : Nat} {xs : List PyData} {a : Addr} (r : Rel K bu σ H G R E) (e : E[i]? = some (.l xs) ∨ E[i]? = some (.d (.list xs))) (hσ : σ[i]? = some (some (.ref a))) : ∃ us, H a = some (.lst us) ∧ Dvs K G us xs := by
  have hs : DL.seen E i fun ys => ys = xs := by
    unfold DL.seen
    rcases e with e | e <;> rw [e]
  obtain ⟨b, us, ys, h1, h2, h3, h4, _⟩ := r.seen hs
  rw [hσ] at h1
  cases h1
  subst h4
  exact ⟨us, h2, h3⟩
/-- xs[e], xs our own -/
def dIxO (i : Nat) (di : DE) : DE := ⟨fun E P => DL.seen E i fun xs => di E fun y => match y with
  | .int z => ∃ d, atI xs z = some d ∧ P d
  | _ => False, di.cost⟩
theorem sim_ixO {i : Nat} {ti : TE} {di : DE} (hi : Sim K ti di) : Sim K (tOp (rIx K) (tVar i) ti) (dIxO i di) := by
  intro bu σ H G R E Q P r hd k
  obtain ⟨a, us, xs, h1, h2, h3, hd, e⟩ := r.seen hd
  refine ⟨_, h1, hi _ σ H G R E _ _ r hd fun y dy H1 G1 l1 r1 hy hd1 => ?_⟩
  cases dy with
  | int z =>
    obtain ⟨d, hz, hp⟩ := hd1
    obtain ⟨us1, h2', h3'⟩ := r1.still e h1
    obtain ⟨v, hv, dv⟩ := h3'.atI hz
    rw [hy.int_inv]
    exact .inl ⟨a, us1, z, v, rfl, rfl, .inl (.inl h2'), hv, k v d H1 G1 l1 r1 dv hp⟩
  | _ => exact hd1.elim
theorem flat_any_G {G G' : Hp} {v : V} {d : PyData} (h : Dv K G v d) (f : flatD d = true) : Dv K G' v d := by
  cases h with
  | non => exact .non
  | bl b => exact .bl b
  | int i => exact .int i
  | str x => exact .str x
  | lst _ _ => cases f
  | tup _ _ => cases f
/-- a look at the heap with our list frozen for the while -/
theorem Rel.peek {σ : L2.St} {H G R : Hp} {E : Env} {i : Nat} {xs : List PyData} {a : Addr} (r : Rel K bu σ H G R E) (e : E[i]? = some (.l xs) ∨ E[i]? = some (.d (.list xs))) (hσ : σ[i]? = some (some (.ref a))) :
    ∃ G', Ex G G' ∧ Ex G' H ∧ Dv K G' (.ref a) (.list xs) := by
  rcases e with e | e
  · obtain ⟨G', l, r'⟩ := r.freeze e
    have hi : i < E.length := (List.getElem?_eq_some_iff.mp e).1
    obtain ⟨v, h1, h2⟩ := r'.dat (i := i) (x := .list xs) (by rw [List.getElem?_set_self hi])
    rw [hσ] at h1
    cases h1
    exact ⟨G', l.1, r'.gh, h2⟩
  · obtain ⟨v, h1, h2⟩ := r.dat e
    rw [hσ] at h1
    cases h1
    exact ⟨G, Ex.refl G, r.gh, h2⟩
/-- f(xs), xs our own, the answer flat -/
def dCBO (f : List PyData → (PyData → Prop) → Prop) (i : Nat) : DE := ⟨fun E P => DL.seen E i fun xs => f [.list xs] fun d => flatD d = true ∧ P d, 0⟩
theorem sim_cbO {r : List V → Hp → VK → Prop} {f : List PyData → (PyData → Prop) → Prop} {i : Nat} (hr : CSim K r f) : Sim K (tCB r (tCons (tVar i) tNil)) (dCBO f i) := by
  intro bu σ H G R E Q P r0 hd k
  obtain ⟨a, us, xs, h1, h2, h3, hd, e⟩ := r0.seen hd
  obtain ⟨G', e1, e2, dv⟩ := r0.peek e h1
  refine ⟨_, h1, hr _ _ G' H Q _ e2 (.cons dv .nil) hd fun v d H' G2 g hv hp => ?_⟩
  have g' : Grow G H G H' := ⟨Ex.refl G, g.h, (e1.trans g.g).trans g.gh, fun _ _ => rfl⟩
  exact k v d H' G (Le.refl R G) (r0.grow g') (flat_any_G hv hp.1) hp.2
/-- xs op e, xs our own, the answer flat -/
def dOpO (f : PyData → PyData → (PyData → Prop) → Prop) (i : Nat) (db : DE) : DE := ⟨fun E P => DL.seen E i fun xs => db E fun y => f (.list xs) y fun d => flatD d = true ∧ P d, db.cost⟩
theorem sim_opO {r : R2} {f : PyData → PyData → (PyData → Prop) → Prop} {i : Nat} (hb : Sim K tb db) (hr : VSim K r f) : Sim K (tOp r (tVar i) tb) (dOpO f i db) := by
  intro bu σ H G R E Q P r0 hd k
  obtain ⟨a, us, xs, h1, h2, h3, hd, e⟩ := r0.seen hd
  refine ⟨_, h1, hb _ σ H G R E _ _ r0 hd fun y dy H1 G1 l1 r1 hy hd1 => ?_⟩
  obtain ⟨G', e1, e2, dv⟩ := r1.peek e h1
  refine hr _ y _ dy G' H1 Q _ e2 dv (hy.mono e1) hd1 fun v d H' G2 g hv hp => ?_
  have g' : Grow G1 H1 G1 H' := ⟨Ex.refl G1, g.h, (e1.trans g.g).trans g.gh, fun _ _ => rfl⟩
  exact k v d H' G1 l1 (r1.grow g') (flat_any_G hv hp.1) hp.2
/-- e op xs, xs our own -/
def dOpO2 (f : PyData → PyData → (PyData → Prop) → Prop) (da : DE) (i : Nat) : DE := ⟨fun E P => da E fun x => DL.seen E i fun xs => f x (.list xs) fun d => flatD d = true ∧ P d, da.cost⟩
theorem sim_opO2 {r : R2} {f : PyData → PyData → (PyData → Prop) → Prop} {i : Nat} (ha : Sim K ta da) (hr : VSim K r f) : Sim K (tOp r ta (tVar i)) (dOpO2 f da i) := by
  intro bu σ H G R E Q P r0 hd k
  refine ha _ σ H G R E _ _ r0 hd fun x dx H1 G1 l1 r1 hx hd1 => ?_
  obtain ⟨a, us, xs, h1, h2, h3, hd1, e⟩ := r1.seen hd1
  obtain ⟨G', e1, e2, dv⟩ := r1.peek e h1
  refine ⟨_, h1, hr x _ dx _ G' H1 Q _ e2 (hx.mono e1) dv hd1 fun v d H' G2 g hv hp => ?_⟩
  have g' : Grow G1 H1 G1 H' := ⟨Ex.refl G1, g.h, (e1.trans g.g).trans g.gh, fun _ _ => rfl⟩
  exact k v d H' G1 l1 (r1.grow g') (flat_any_G hv hp.1) hp.2
/-- tuple(xs), xs our own -/
def dTupO (i : Nat) : DE := ⟨fun E P => DL.seen E i fun xs => P (.tuple xs), 0⟩
theorem sim_tupO {i : Nat} : Sim K (tCB (fun xs H Q => ∃ p ys, xs = [.ref p] ∧ ((SqL K H p ys ∧ ∀ l, H l = none → Q (.ref l) (upd H l (.tup ys))) ∨ (SqT K H p ys ∧ Q (.ref p) H))) (tCons (tVar i) tNil)) (dTupO i) := by
  intro bu σ H G R E Q P r0 hd k
  obtain ⟨a, us, xs, h1, h2, h3, hd, e⟩ := r0.seen hd
  refine ⟨_, h1, a, us, rfl, .inl ⟨.inl (.inl h2), fun l hl => ?_⟩⟩
  have g := Grow.one (o := .tup us) r0.gh hl
  exact k _ _ _ (upd G l (.tup us)) (g.le r0.rh) (r0.grow g) (.tup (.inl (.inl upd_same)) (h3.mono (Ex.new (ex_none r0.gh hl)))) hd
/-! ### while -/
def dWhile (dt : DT) (d : DS) : DS := ⟨fun DD E => ∃ W : Nat → Env → Prop, (∃ m, W m E) ∧ ∀ m E', W m E' → dt E' fun b => Br b (d { nx := fun E2 => ∃ m', m' < m ∧ W m' E2, ct := fun E2 => ∃ m', m' < m ∧ W m' E2, bk := DD.nx, rt := DD.rt, wx := DD.wx, rx := DD.rx } E') (DD.nx E'), 0⟩
theorem sims_while {tt : TT} {dt : DT} (h : SimT K tt dt) (hb : SimS K t d) (c0 : dt.cost + d.cost = 0) : SimS K (tWhile tt t) (dWhile dt d) := by
  intro bu DD D σ H G R E r hd k
  obtain ⟨W, ⟨m0, w0⟩, turn⟩ := hd
  refine ⟨fun m σ' H' => ∃ G' E', Le R G G' ∧ Rel K bu σ' H' G' R E' ∧ W m E', ⟨m0, G, E, Le.refl R G, r, w0⟩, ?_⟩
  rintro m σ1 H1 ⟨G1, E1, l1, r1, w1⟩
  refine h bu σ1 H1 G1 R E1 _ _ (r1.dn (by omega)) (turn m E1 w1) fun b H2 G2 l2 r2 hp => ?_
  cases b with
  | true =>
    rw [if_pos rfl]
    refine ⟨fun σ' H' => ∃ G' E', Le R G G' ∧ Rel K bu σ' H' G' R E' ∧ ∃ m', m' < m ∧ W m' E', ?_, ?_⟩
    · rintro σ' H' ⟨G', E', l', r', m', hm, w'⟩
      exact ⟨m', hm, G', E', l', r', w'⟩
    · have k2 := k.mono (l1.trans l2)
      exact hb bu _ _ σ1 H2 G2 R E1 (r2.dn (by omega)) (hp.t rfl) ⟨fun σ' H' G' E' l' r' q => ⟨G', E', (l1.trans l2).trans l', r', q⟩, k2.rt, k2.nx, fun σ' H' G' E' l' r' q => ⟨G', E', (l1.trans l2).trans l', r', q⟩, k2.rx⟩
  | false =>
    rw [if_neg Bool.false_ne_true]
    exact k.nx _ _ G2 _ (l1.trans l2) r2 (hp.f rfl)
/-- with calls on the state within: at most 4096 turns -/
def dWhileS (dt : DT) (d : DS) : DS := ⟨fun DD E => ∃ W : Nat → Env → Prop, (∃ m, m ≤ 4096 ∧ W m E) ∧ ∀ m E', W m E' → dt E' fun b => Br b (d { nx := fun E2 => ∃ m', m' < m ∧ W m' E2, ct := fun E2 => ∃ m', m' < m ∧ W m' E2, bk := DD.nx, rt := DD.rt, wx := DD.wx, rx := DD.rx } E') (DD.nx E'), 4097 * (dt.cost + d.cost)⟩
theorem sims_whileS {tt : TT} {dt : DT} (h : SimT K tt dt) (hb : SimS K t d) : SimS K (tWhile tt t) (dWhileS dt d) := by
  intro bu DD D σ H G R E r hd k
  obtain ⟨W, ⟨m0, hm0, w0⟩, turn⟩ := hd
  have cst : (dWhileS dt d).cost = 4097 * (dt.cost + d.cost) := rfl
  rw [cst] at r
  generalize hc : dt.cost + d.cost = c at r
  have le : ∀ m, m ≤ 4096 → (m + 1) * c ≤ 4097 * c := fun m hm => Nat.mul_le_mul_right c (by omega)
  refine ⟨fun m σ' H' => ∃ G' E', Le R G G' ∧ Rel K (bu + (m + 1) * c) σ' H' G' R E' ∧ W m E', ⟨m0, G, E, Le.refl R G, r.dn (by have := le m0 hm0; omega), w0⟩, ?_⟩
  rintro m σ1 H1 ⟨G1, E1, l1, r1, w1⟩
  have eb : (m + 1) * c = m * c + c := Nat.succ_mul m c
  have stp : ∀ m', m' < m → (m' + 1) * c ≤ m * c := fun m' hm => Nat.mul_le_mul_right c (by omega)
  refine h (bu + (m * c + d.cost)) σ1 H1 G1 R E1 _ _ (r1.dn (by omega)) (turn m E1 w1) fun b H2 G2 l2 r2 hp => ?_
  cases b with
  | true =>
    rw [if_pos rfl]
    refine ⟨fun σ' H' => ∃ G' E' m', m' < m ∧ Le R G G' ∧ Rel K (bu + (m' + 1) * c) σ' H' G' R E' ∧ W m' E', ?_, ?_⟩
    · rintro σ' H' ⟨G', E', m', hm, l', r', w'⟩
      exact ⟨m', hm, G', E', l', r', w'⟩
    · have k3 : EndsOk K (bu + m * c) G2 R _ _ := (k.mono (l1.trans l2)).dn (Nat.le_add_right ..)
      refine hb (bu + m * c) _ _ σ1 H2 G2 R E1 (r2.dn (by omega)) (hp.t rfl) ⟨fun σ' H' G' E' l' r' q => ?_, k3.rt, k3.nx, fun σ' H' G' E' l' r' q => ?_, k3.rx⟩
      · obtain ⟨m', hm, w'⟩ := q
        exact ⟨G', E', m', hm, (l1.trans l2).trans l', r'.dn (by have := stp m' hm; omega), w'⟩
      · obtain ⟨m', hm, w'⟩ := q
        exact ⟨G', E', m', hm, (l1.trans l2).trans l', r'.dn (by have := stp m' hm; omega), w'⟩
  | false =>
    rw [if_neg Bool.false_ne_true]
    exact k.nx _ _ G2 _ (l1.trans l2) r2.fin (hp.f rfl)
end
end DL

namespace DL
open PySem PySem.Spec PyProof.Rows L2
open Evl (Ex)
/-! ### targets -/
def wipeE (E : Env) : List Nat → Env
  | [] => E
  | v :: vs => (wipeE E vs).set v .no
abbrev DG := PyData → Env → (Env → Prop) → Prop
abbrev DGs := List PyData → Env → (Env → Prop) → Prop
def SimG (K : PySem.W.Frag) (g : TG) (dg : DG) (js : List Nat) : Prop := ∀ (v : V) (d : PyData) (bu : Nat) (σ : L2.St) (H G R : Hp) (E : Env) (Q : L2.St → Hp → Prop) (P : Env → Prop), Rel K bu σ H G R E → Dv K G v d → dg d E P →
  (∀ σ' E', (∀ vs : List Nat, (∀ j ∈ js, j ∈ vs) → wipe σ' vs = wipe σ vs ∧ wipeE E' vs = wipeE E vs) → Rel K bu σ' H G R E' → P E' → Q σ' H) → g v σ H Q
def SimGs (K : PySem.W.Frag) (g : TGs) (dg : DGs) (js : List Nat) : Prop := ∀ (v : List V) (d : List PyData) (bu : Nat) (σ : L2.St) (H G R : Hp) (E : Env) (Q : L2.St → Hp → Prop) (P : Env → Prop), Rel K bu σ H G R E → Dvs K G v d → dg d E P →
  (∀ σ' E', (∀ vs : List Nat, (∀ j ∈ js, j ∈ vs) → wipe σ' vs = wipe σ vs ∧ wipeE E' vs = wipeE E vs) → Rel K bu σ' H G R E' → P E' → Q σ' H) → g v σ H Q
structure PGD (X : Cx) (K : PySem.W.Frag) (tg : Expr) (g : TG) (dg : DG) (js : List Nat) : Prop where
  pg : PG X tg g
  sim : SimG K g dg js
structure PGsD (X : Cx) (K : PySem.W.Frag) (tgs : List Expr) (g : TGs) (dg : DGs) (js : List Nat) : Prop where
  pgs : PGs X tgs g
  sim : SimGs K g dg js
theorem wipe_set {j : Nat} {x : Option V} : ∀ {vs : List Nat} {σ : L2.St}, j ∈ vs → wipe (σ.set j x) vs = wipe σ vs
  | [], _, h => by cases h
  | v :: vs, σ, h => by
    show (wipe (σ.set j x) vs).set v none = (wipe σ vs).set v none
    by_cases e : j ∈ vs
    · rw [wipe_set e]
    · have e2 : j = v := by
        rcases List.mem_cons.mp h with h | h
        · exact h
        · exact absurd h e
      subst e2
      have key : ∀ (ws : List Nat) (τ : L2.St), (wipe (τ.set j x) ws).set j none = (wipe τ ws).set j none := by
        intro ws
        induction ws with
        | nil => intro τ; show (τ.set j x).set j none = τ.set j none; rw [List.set_set]
        | cons w ws ih =>
          intro τ
          show ((wipe (τ.set j x) ws).set w none).set j none = ((wipe τ ws).set w none).set j none
          by_cases ew : w = j
          · subst ew
            rw [List.set_set, List.set_set, ih τ]
          · rw [List.set_comm _ _ ew, ih τ, ← List.set_comm _ _ ew]
      exact key vs σ
theorem wipeE_set {j : Nat} {x : C} : ∀ {vs : List Nat} {E : Env}, j ∈ vs → wipeE (E.set j x) vs = wipeE E vs
  | [], _, h => by cases h
  | v :: vs, E, h => by
    show (wipeE (E.set j x) vs).set v .no = (wipeE E vs).set v .no
    by_cases e : j ∈ vs
    · rw [wipeE_set e]
    · have e2 : j = v := by
        rcases List.mem_cons.mp h with h | h
        · exact h
        · exact absurd h e
      subst e2
      have key : ∀ (ws : List Nat) (τ : Env), (wipeE (τ.set j x) ws).set j .no = (wipeE τ ws).set j .no := by
        intro ws
        induction ws with
        | nil => intro τ; show (τ.set j x).set j .no = τ.set j .no; rw [List.set_set]
        | cons w ws ih =>
          intro τ
          show ((wipeE (τ.set j x) ws).set w .no).set j .no = ((wipeE τ ws).set w .no).set j .no
          by_cases ew : w = j
          · subst ew
            rw [List.set_set, List.set_set, ih τ]
          · rw [List.set_comm _ _ ew, ih τ, ← List.set_comm _ _ ew]
      exact key vs E
theorem wipeE_wipeE {E : Env} : ∀ vs : List Nat, wipeE (wipeE E vs) vs = wipeE E vs := by
  have key : ∀ (ws vs : List Nat), (∀ w ∈ ws, w ∈ vs) → wipeE (wipeE E ws) vs = wipeE E vs := by
    intro ws
    induction ws with
    | nil => intro vs _; rfl
    | cons w ws ih =>
      intro vs h
      show wipeE ((wipeE E ws).set w .no) vs = wipeE E vs
      rw [wipeE_set (h w List.mem_cons_self), ih vs fun z hz => h z (List.mem_cons_of_mem _ hz)]
  intro vs
  exact key vs vs fun _ h => h
theorem wipe_wipe {σ : L2.St} : ∀ vs : List Nat, wipe (wipe σ vs) vs = wipe σ vs := by
  have key : ∀ (ws vs : List Nat), (∀ w ∈ ws, w ∈ vs) → wipe (wipe σ ws) vs = wipe σ vs := by
    intro ws
    induction ws with
    | nil => intro vs _; rfl
    | cons w ws ih =>
      intro vs h
      show wipe ((wipe σ ws).set w none) vs = wipe σ vs
      rw [wipe_set (h w List.mem_cons_self), ih vs fun z hz => h z (List.mem_cons_of_mem _ hz)]
  intro vs
  exact key vs vs fun _ h => h
section
variable {X : Cx} {K : PySem.W.Frag} {te ta tb : TE} {de da db : DE} {dn dn' : DN} {t u : TS} {d d' : DS} {tt : TT} {dt : DT}
def dgName (i : Nat) : DG := fun x E P => P (E.set i (.d x))
theorem sg_name {i : Nat} : SimG K (gName i) (dgName i) [i] := by
  intro v d bu σ H G R E Q P r hv hd k
  exact k _ _ (fun vs h => ⟨wipe_set (h i (List.mem_singleton.mpr rfl)), wipeE_set (h i (List.mem_singleton.mpr rfl))⟩) (r.set hv) hd
def dgNil : DGs := fun xs E P => match xs with
  | [] => P E
  | _ => False
def dgCons (dg : DG) (dgs : DGs) : DGs := fun xs E P => match xs with
  | x :: xs => dg x E fun E' => dgs xs E' P
  | _ => False
theorem sgs_nil : SimGs K gNil dgNil [] := by
  intro v d bu σ H G R E Q P r hv hd k
  cases hv with
  | nil => exact ⟨rfl, k σ E (fun _ _ => ⟨rfl, rfl⟩) r hd⟩
  | cons _ _ => exact hd.elim
theorem sgs_cons {g : TG} {gs : TGs} {dg : DG} {dgs : DGs} {js js' : List Nat} (h : SimG K g dg js) (h' : SimGs K gs dgs js') : SimGs K (gCons g gs) (dgCons dg dgs) (js ++ js') := by
  intro v d bu σ H G R E Q P r hv hd k
  cases hv with
  | nil => exact hd.elim
  | cons h1 h2 =>
    refine ⟨_, _, rfl, h _ _ _ σ H G R E _ _ r h1 hd fun σ1 E1 w1 r1 hd1 => ?_⟩
    exact h' _ _ _ σ1 H G R E1 _ _ r1 h2 hd1 fun σ2 E2 w2 r2 hp => k σ2 E2 (fun vs hj => ⟨(w2 vs fun j hh => hj j (List.mem_append_right _ hh)).1.trans (w1 vs fun j hh => hj j (List.mem_append_left _ hh)).1, (w2 vs fun j hh => hj j (List.mem_append_right _ hh)).2.trans (w1 vs fun j hh => hj j (List.mem_append_left _ hh)).2⟩) r2 hp
def dgTup (n : Nat) (dgs : DGs) : DG := fun x E P => match x with
  | .tuple ds => ds.length = n ∧ dgs ds E P
  | _ => False
theorem sg_tup {n : Nat} {gs : TGs} {dgs : DGs} {js : List Nat} (h : SimGs K gs dgs js) : SimG K (gTup K n gs) (dgTup n dgs) js := by
  intro v d bu σ H G R E Q P r hv hd k
  unfold dgTup at hd
  split at hd
  · obtain ⟨a, xs, rfl, ha, qa⟩ := hv.tuple_inv
    exact ⟨a, xs, rfl, Evl.ex_t r.gh ha, by rw [qa.length]; exact hd.1, h _ _ _ σ H G R E _ _ r qa hd.2 k⟩
  · exact hd.elim
/-- target = e -/
def dAsg (de : DE) (dg : DG) : DS := ⟨fun DD E => de E fun x => dg x E DD.nx, de.cost⟩
theorem sims_asg {g : TG} {dg : DG} {js : List Nat} (h : Sim K te de) (hg : SimG K g dg js) : SimS K (tAsg te g) (dAsg de dg) := fun bu DD D σ H G R E r hd k =>
  h _ σ H G R E _ _ r hd fun v d H' G' l r' hv hp => hg v d _ σ H' G' R E _ _ r' hv hp fun σ2 E2 _ r2 hp2 => k.nx σ2 H' G' E2 l r2 hp2
/-! ### what is walked -/
/-- an iterator that yields these data -/
def ItD (K : PySem.W.Frag) (G : Hp) (J : It) (ds : List PyData) : Prop := (∀ i H, Ex G H → i < ds.length → J.go i H) ∧ (∀ H, Ex G H → J.stop ds.length H) ∧
  ∀ i d G1 H1 x H2, ds[i]? = some d → Ex G G1 → Ex G1 H1 → J.yld i H1 x H2 → ∃ G2, Grow G1 H1 G2 H2 ∧ Dv K G2 x d
def SimI (K : PySem.W.Frag) (wi : TI) (di : DN) : Prop := ∀ (bu : Nat) (σ : L2.St) (H G R : Hp) (E : Env) (Q : It → Hp → Prop) (P : List PyData → Prop), Rel K (bu + di.cost) σ H G R E → di E P →
  (∀ J ds H' G', Le R G G' → Rel K bu σ H' G' R E → ItD K G' J ds → P ds → Q J H') → wi σ H Q
structure PID (X : Cx) (K : PySem.W.Frag) (tg iter : Expr) (wi : TI) (di : DN) : Prop where
  pi : PI X tg iter wi
  sim : SimI K wi di
/-- a list or a tuple -/
def iSeq (K : PySem.W.Frag) (tl : TE) : TI := fun σ H R => tl σ H fun x H1 => ∃ a, x = .ref a ∧ (((∃ xs, SqL K H1 a xs) ∧ R (Itl K a) H1) ∨ ((∃ xs, SqT K H1 a xs) ∧ R (Itt K a) H1))
theorem pi_seq {tg l : Expr} {tl : TE} (hl : PE X l tl) : PI X tg l (iSeq X.K tl) := by
  refine ⟨fun pins s σ H R I h => ?_⟩
  refine thn (hl.run pins s σ H _ I h) fun v s1 ⟨x, H1, I1, r1, q1⟩ => ?_
  obtain ⟨a, e, q | q⟩ := q1
  · subst e
    obtain ⟨⟨xs, hq⟩, q⟩ := q
    cases r1
    obtain ⟨its, rv, p, hz⟩ := I1.list hq
    refine wpAny_pyIter_list p.isList ?_
    refine ⟨s1.heap.objs.size, [s1.heap.objs.size], _, _, H1, rfl, I1.kept (t' := s1.toks) fun b o e => Heap.get?_push_of_some _ e, turn_list a _, ⟨_, Heap.get?_push_size _ rfl, rfl, rfl⟩, fun b hb => ?_, q⟩
    have e : b = s1.heap.objs.size := by simpa using hb
    subst e
    exact I1.fpOk (Nat.le_refl _) (I1.hok.fresh (Nat.le_refl _))
  · subst e
    obtain ⟨⟨xs, hq⟩, q⟩ := q
    cases r1
    obtain ⟨its, rv, p, hz⟩ := I1.tuple hq
    refine wpAny_pyIter_tuple (show s1.heap.IsTuple a its.toArray from p) ?_
    refine ⟨s1.heap.objs.size, [s1.heap.objs.size], _, _, H1, rfl, I1.kept (t' := s1.toks) fun b o e => Heap.get?_push_of_some _ e, turn_tuple a _, ⟨_, Heap.get?_push_size _ rfl, rfl, rfl⟩, fun b hb => ?_, q⟩
    have e : b = s1.heap.objs.size := by simpa using hb
    subst e
    exact I1.fpOk (Nat.le_refl _) (I1.hok.fresh (Nat.le_refl _))
def dSeqI (de : DE) : DN := ⟨fun E P => de E fun x => match x with
  | .list ds => P ds
  | .tuple ds => P ds
  | _ => False, de.cost⟩
theorem itd_list {G : Hp} {a : Addr} {us : List V} {ds : List PyData} (ha : G a = some (.lst us)) (h : Dvs K G us ds) : ItD K G (Itl K a) ds := by
  refine ⟨fun i H e hi => ?_, fun H e => ⟨us, .inl (.inl (e _ _ ha)), by rw [h.length]; exact Nat.le_refl _⟩, fun i d G1 H1 x H2 hd e1 e2 y => ?_⟩
  · obtain ⟨v, hv, _⟩ := h.at_ (List.getElem?_eq_getElem hi)
    exact ⟨us, v, .inl (.inl (e _ _ ha)), hv⟩
  · obtain ⟨rfl, y⟩ := y
    obtain ⟨v, hv, dv⟩ := h.at_ hd
    have q := y us (.inl (.inl ((e1.trans e2) _ _ ha)))
    rw [hv] at q
    cases q
    exact ⟨G1, Grow.refl e2, dv.mono e1⟩
theorem itd_tup {G : Hp} {a : Addr} {us : List V} {ds : List PyData} (ha : SqT K G a us) (h : Dvs K G us ds) : ItD K G (Itt K a) ds := by
  refine ⟨fun i H e hi => ?_, fun H e => ⟨us, Evl.ex_t e ha, by rw [h.length]; exact Nat.le_refl _⟩, fun i d G1 H1 x H2 hd e1 e2 y => ?_⟩
  · obtain ⟨v, hv, _⟩ := h.at_ (List.getElem?_eq_getElem hi)
    exact ⟨us, v, Evl.ex_t e ha, hv⟩
  · obtain ⟨rfl, y⟩ := y
    obtain ⟨v, hv, dv⟩ := h.at_ hd
    have q := y us (Evl.ex_t (e1.trans e2) ha)
    rw [hv] at q
    cases q
    exact ⟨G1, Grow.refl e2, dv.mono e1⟩
theorem si_seq (h : Sim K te de) : SimI K (iSeq K te) (dSeqI de) := by
  intro bu σ H G R E Q P r hd k
  refine h _ σ H G R E _ _ r hd fun v d H' G' l r' hv hp => ?_
  split at hp
  · obtain ⟨a, us, rfl, ha, q⟩ := hv.list_inv
    exact ⟨a, rfl, .inl ⟨⟨us, .inl (.inl (r'.gh _ _ ha))⟩, k _ _ H' G' l r' (itd_list ha q) hp⟩⟩
  · obtain ⟨a, us, rfl, ha, q⟩ := hv.tuple_inv
    exact ⟨a, rfl, .inr ⟨⟨us, Evl.ex_t r'.gh ha⟩, k _ _ H' G' l r' (itd_tup ha q) hp⟩⟩
  · exact hp.elim
/-- the script -/
def dScrI (i : Nat) : DN := ⟨fun E P => match E[i]? with
  | some (.scr ns) => P (iL ns)
  | _ => False, 0⟩
theorem Dvs.ints_at {G : Hp} {ns : List Int} {i : Nat} {d : PyData} {x : V} (h : (iL ns)[i]? = some d) (h' : (ns.map V.int)[i]? = some x) : Dv K G x d := by
  rw [List.getElem?_map] at h h'
  cases q : ns[i]? with
  | none => rw [q] at h; cases h
  | some n =>
    rw [q] at h h'
    cases h
    cases h'
    exact .int n
theorem si_scr {i : Nat} : SimI K (iSeq K (tVar i)) (dScrI i) := by
  intro bu σ H G R E Q P r hd k
  simp only [dScrI] at hd
  split at hd
  · rename_i ns e
    obtain ⟨v, fp, h1, _, a, rfl, ha⟩ := r.get e
    refine ⟨_, h1, a, rfl, .inl ⟨⟨_, Evl.ex_l r.gh ha⟩, k _ _ H G (Le.refl R G) r ⟨fun i H' e hi => ?_, fun H' e => ⟨_, Evl.ex_l e ha, by simp [iL]⟩, fun i d G1 H1 x H2 hd e1 e2 y => ?_⟩ hd⟩⟩
    · have hi' : i < ns.length := by simpa [iL] using hi
      exact ⟨_, .int ns[i], Evl.ex_l e ha, by simp [hi']⟩
    · obtain ⟨rfl, y⟩ := y
      exact ⟨G1, Grow.refl e2, Dvs.ints_at hd (y _ (Evl.ex_l (e1.trans e2) ha))⟩
  · exact hd.elim
/-- ranges -/
def rgD (lo : Int) (n : Nat) : List PyData := (List.range n).map fun (i : Nat) => PyData.int (lo + (i : Int))
theorem rgD_at {lo : Int} {n i : Nat} {d : PyData} (h : (rgD lo n)[i]? = some d) : i < n ∧ d = .int (lo + (i : Int)) := by
  unfold rgD at h
  rw [List.getElem?_map] at h
  by_cases hi : i < n
  · rw [List.getElem?_range hi] at h
    exact ⟨hi, (Option.some.inj h).symm⟩
  · rw [List.getElem?_eq_none (by simpa using hi)] at h
    cases h
theorem rgD_len {lo : Int} {n : Nat} : (rgD lo n).length = n := by simp [rgD]
theorem itd_rng {G : Hp} {lo : Int} {n : Nat} : ItD K G (Itr lo n) (rgD lo n) := by
  refine ⟨fun i H e hi => by rw [rgD_len] at hi; exact hi, fun H e => by rw [rgD_len]; exact Nat.le_refl _, fun i d G1 H1 x H2 hd e1 e2 y => ?_⟩
  obtain ⟨rfl, rfl⟩ := y
  rw [(rgD_at hd).2]
  exact ⟨G1, Grow.refl e2, .int _⟩
def dRng1 (da : DN) : DN := ⟨fun E P => da E fun xs => match xs with
  | [.int n] => (-(2 ^ 62) ≤ n ∧ n < 2 ^ 62) ∧ P (rgD 0 n.toNat)
  | _ => False, da.cost⟩
theorem si_rng1 {n : Nat} {ta : TA} {da : DN} (h : SimA K n ta da) : SimI K (iRng1 ta) (dRng1 da) := by
  intro bu σ H G R E Q P r hd k
  refine h _ σ H G R E _ _ r hd fun vs ds H' G' hl l r' hv hp => ?_
  split at hp
  · cases hv with
    | cons h1 r =>
      cases r
      rw [h1.int_inv]
      exact ⟨_, rfl, hp.1.1, hp.1.2, k _ _ H' G' l r' itd_rng hp.2⟩
  · exact hp.elim
def dRng2 (da : DN) : DN := ⟨fun E P => da E fun xs => match xs with
  | [.int a, .int b] => (-(2 ^ 62) ≤ a ∧ a < 2 ^ 62 ∧ -(2 ^ 62) ≤ b ∧ b < 2 ^ 62) ∧ P (rgD a (b - a).toNat)
  | _ => False, da.cost⟩
theorem si_rng2 {n : Nat} {ta : TA} {da : DN} (h : SimA K n ta da) : SimI K (iRng2 ta) (dRng2 da) := by
  intro bu σ H G R E Q P r hd k
  refine h _ σ H G R E _ _ r hd fun vs ds H' G' hl l r' hv hp => ?_
  split at hp
  · cases hv with
    | cons h1 r =>
      cases r with
      | cons h2 r =>
        cases r
        rw [h1.int_inv, h2.int_inv]
        exact ⟨_, _, rfl, hp.1, k _ _ H' G' l r' itd_rng hp.2⟩
  · exact hp.elim
/-- range(a, b, -1) -/
def dnD (hi : Int) (n : Nat) : List PyData := (List.range n).map fun (i : Nat) => PyData.int (hi - (i : Int))
theorem dnD_at {lo : Int} {n i : Nat} {d : PyData} (h : (dnD lo n)[i]? = some d) : i < n ∧ d = .int (lo - (i : Int)) := by
  unfold dnD at h
  rw [List.getElem?_map] at h
  by_cases hi : i < n
  · rw [List.getElem?_range hi] at h
    exact ⟨hi, (Option.some.inj h).symm⟩
  · rw [List.getElem?_eq_none (by simpa using hi)] at h
    cases h
theorem dnD_len {lo : Int} {n : Nat} : (dnD lo n).length = n := by simp [dnD]
def dRngN (da : DN) : DN := ⟨fun E P => da E fun xs => match xs with
  | [.int a, .int b, .int (-1)] => (-(2 ^ 62) ≤ a ∧ a < 2 ^ 62 ∧ -(2 ^ 62) ≤ b ∧ b < 2 ^ 62) ∧ P (dnD a (a - b).toNat)
  | _ => False, da.cost⟩
theorem si_rngN {n : Nat} {ta : TA} {da : DN} (h : SimA K n ta da) : SimI K (iRng3 ta) (dRngN da) := by
  intro bu σ H G R E Q P r hd k
  refine h _ σ H G R E _ _ r hd fun vs ds H' G' hl l r' hv hp => ?_
  split at hp
  · rename_i a b
    cases hv with
    | cons h1 r =>
      cases r with
      | cons h2 r =>
        cases r with
        | cons h3 r =>
          cases r
          rw [h1.int_inv, h2.int_inv, h3.int_inv]
          refine ⟨a, b, -1, (a - b).toNat, rfl, RgC.neg hp.1.1 hp.1.2.1 hp.1.2.2.1 hp.1.2.2.2, k _ (dnD a (a - b).toNat) H' G' l r' ⟨fun i H e hi => by rw [dnD_len] at hi; exact hi, fun H e => by rw [dnD_len]; exact Nat.le_refl _, fun i d G1 H1 x H2 hd e1 e2 y => ?_⟩ hp.2⟩
          obtain ⟨rfl, rfl⟩ := y
          rw [(dnD_at hd).2]
          refine ⟨G1, Grow.refl e2, ?_⟩
          have e3 : a + (i : Int) * -1 = a - (i : Int) := by omega
          rw [e3]
          exact .int _
  · exact hp.elim
/-- pairs -/
theorem pair_step {G1 H1 : Hp} {T : Addr} {x y : V} {d e : PyData} (e2 : Ex G1 H1) (hT : H1 T = none) (hx : Dv K G1 x d) (hy : Dv K G1 y e) : ∃ G2, Grow G1 H1 G2 (upd H1 T (.tup [x, y])) ∧ Dv K G2 (.ref T) (.tuple [d, e]) :=
  ⟨upd G1 T (.tup [x, y]), Grow.one e2 hT, .tup (.inl (.inl upd_same)) (.cons (hx.mono (Ex.new (ex_none e2 hT))) (.cons (hy.mono (Ex.new (ex_none e2 hT))) .nil))⟩
def zipD (ds es : List PyData) : List PyData := (ds.zip es).map fun p => PyData.tuple [p.1, p.2]
theorem zipD_at {ds es : List PyData} {i : Nat} {d : PyData} (h : (zipD ds es)[i]? = some d) : ∃ a b, ds[i]? = some a ∧ es[i]? = some b ∧ d = .tuple [a, b] := by
  unfold zipD at h
  rw [List.getElem?_map] at h
  cases q : (ds.zip es)[i]? with
  | none => rw [q] at h; cases h
  | some p =>
    rw [q] at h
    obtain ⟨a, b⟩ := p
    obtain ⟨h1, h2⟩ := List.getElem?_zip_eq_some.mp q
    exact ⟨a, b, h1, h2, (Option.some.inj h).symm⟩
theorem zipD_len {ds es : List PyData} : (zipD ds es).length = min ds.length es.length := by simp [zipD]
def dZip (da : DN) : DN := ⟨fun E P => da E fun xs => match xs with
  | [.list ds, .list es] => P (zipD ds es)
  | [.tuple ds, .tuple es] => P (zipD ds es)
  | _ => False, da.cost⟩
theorem si_zip {n : Nat} {ta : TA} {da : DN} (h : SimA K n ta da) : SimI K (RZ.iZipA K ta) (dZip da) := by
  intro bu σ H G R E Q P r hd k
  refine h _ σ H G R E _ _ r hd fun vs ds H' G' hl l r' hv hp => ?_
  split at hp
  · cases hv with
    | cons h1 r =>
      cases r with
      | cons h2 r =>
        cases r
        obtain ⟨a, us, rfl, ha, qa⟩ := h1.list_inv
        obtain ⟨b, ws, rfl, hb, qb⟩ := h2.list_inv
        have la := qa.length
        have lb := qb.length
        refine ⟨a, b, us, ws, rfl, .inl ⟨.inl (.inl (r'.gh _ _ ha)), .inl (.inl (r'.gh _ _ hb)), k _ _ H' G' l r' ⟨fun i H e hi => ?_, fun H e => ?_, fun i d G1 H1 x H2 hd e1 e2 y => ?_⟩ hp⟩⟩
        · rw [zipD_len] at hi
          exact ⟨us, ws, us[i]'(by omega), ws[i]'(by omega), .inl (.inl (e _ _ ha)), .inl (.inl (e _ _ hb)), List.getElem?_eq_getElem _, List.getElem?_eq_getElem _⟩
        · rw [zipD_len]
          exact ⟨us, ws, .inl (.inl (e _ _ ha)), .inl (.inl (e _ _ hb)), by omega⟩
        · obtain ⟨T, x1, x2, rfl, hT, rfl, f1, f2⟩ := y
          obtain ⟨p, q, h3, h4, rfl⟩ := zipD_at hd
          obtain ⟨v1, hv1, dv1⟩ := qa.at_ h3
          obtain ⟨v2, hv2, dv2⟩ := qb.at_ h4
          have g1 := f1 us (.inl (.inl ((e1.trans e2) _ _ ha)))
          have g2 := f2 ws (.inl (.inl ((e1.trans e2) _ _ hb)))
          rw [hv1] at g1
          rw [hv2] at g2
          cases g1
          cases g2
          exact pair_step e2 hT (dv1.mono e1) (dv2.mono e1)
  · cases hv with
    | cons h1 r =>
      cases r with
      | cons h2 r =>
        cases r
        obtain ⟨a, us, rfl, ha, qa⟩ := h1.tuple_inv
        obtain ⟨b, ws, rfl, hb, qb⟩ := h2.tuple_inv
        have la := qa.length
        have lb := qb.length
        refine ⟨a, b, us, ws, rfl, .inr ⟨Evl.ex_t r'.gh ha, Evl.ex_t r'.gh hb, k _ _ H' G' l r' ⟨fun i H e hi => ?_, fun H e => ?_, fun i d G1 H1 x H2 hd e1 e2 y => ?_⟩ hp⟩⟩
        · rw [zipD_len] at hi
          exact ⟨us, ws, us[i]'(by omega), ws[i]'(by omega), Evl.ex_t e ha, Evl.ex_t e hb, List.getElem?_eq_getElem _, List.getElem?_eq_getElem _⟩
        · rw [zipD_len]
          exact ⟨us, ws, Evl.ex_t e ha, Evl.ex_t e hb, by omega⟩
        · obtain ⟨T, x1, x2, rfl, hT, rfl, f1, f2⟩ := y
          obtain ⟨p, q, h3, h4, rfl⟩ := zipD_at hd
          obtain ⟨v1, hv1, dv1⟩ := qa.at_ h3
          obtain ⟨v2, hv2, dv2⟩ := qb.at_ h4
          have g1 := f1 us (Evl.ex_t (e1.trans e2) ha)
          have g2 := f2 ws (Evl.ex_t (e1.trans e2) hb)
          rw [hv1] at g1
          rw [hv2] at g2
          cases g1
          cases g2
          exact pair_step e2 hT (dv1.mono e1) (dv2.mono e1)
  · exact hp.elim
def enD (ds : List PyData) : List PyData := (List.range ds.length).map fun (i : Nat) => PyData.tuple [.int (i : Int), ds.getD i .none]
theorem enD_len {ds : List PyData} : (enD ds).length = ds.length := by simp [enD]
theorem enD_at {ds : List PyData} {i : Nat} {d : PyData} (h : (enD ds)[i]? = some d) : ∃ a, ds[i]? = some a ∧ d = .tuple [.int (i : Int), a] := by
  unfold enD at h
  rw [List.getElem?_map] at h
  by_cases hi : i < ds.length
  · rw [List.getElem?_range hi] at h
    refine ⟨ds[i], List.getElem?_eq_getElem hi, ?_⟩
    have e : ds.getD i .none = ds[i] := by simp [hi]
    rw [← e]
    exact (Option.some.inj h).symm
  · rw [List.getElem?_eq_none (by simpa using hi)] at h
    cases h
def dEnum (da : DN) : DN := ⟨fun E P => da E fun xs => match xs with
  | [.list ds] => P (enD ds)
  | _ => False, da.cost⟩
theorem si_enum {n : Nat} {ta : TA} {da : DN} (h : SimA K n ta da) : SimI K (iEnum K ta) (dEnum da) := by
  intro bu σ H G R E Q P r hd k
  refine h _ σ H G R E _ _ r hd fun vs ds H' G' hl l r' hv hp => ?_
  split at hp
  · cases hv with
    | cons h1 r =>
      cases r
      obtain ⟨a, us, rfl, ha, qa⟩ := h1.list_inv
      have la := qa.length
      refine ⟨a, us, rfl, .inl (.inl (r'.gh _ _ ha)), k _ _ H' G' l r' ⟨fun i H e hi => ?_, fun H e => ?_, fun i d G1 H1 x H2 hd e1 e2 y => ?_⟩ hp⟩
      · rw [enD_len] at hi
        exact ⟨us, us[i]'(by omega), .inl (.inl (e _ _ ha)), List.getElem?_eq_getElem _⟩
      · rw [enD_len]
        exact ⟨us, .inl (.inl (e _ _ ha)), by omega⟩
      · obtain ⟨T, x1, rfl, hT, rfl, f1⟩ := y
        obtain ⟨p, h3, rfl⟩ := enD_at hd
        obtain ⟨v1, hv1, dv1⟩ := qa.at_ h3
        have g1 := f1 us (.inl (.inl ((e1.trans e2) _ _ ha)))
        rw [hv1] at g1
        cases g1
        exact pair_step e2 hT (.int _) (dv1.mono e1)
  · exact hp.elim
/-! ### for -/
def dFor (di : DN) (dg : DG) (d : DS) : DS := ⟨fun DD E => di E fun ds => ∃ W : Nat → Env → Prop, W 0 E ∧ (∀ i x E1, ds[i]? = some x → W i E1 → dg x E1 fun E2 => d { nx := W (i + 1), ct := W (i + 1), bk := DD.nx, rt := DD.rt, wx := DD.wx, rx := DD.rx } E2) ∧ ∀ E1, W ds.length E1 → DD.nx E1, di.cost⟩
theorem sims_for {wi : TI} {di : DN} {g : TG} {dg : DG} {js : List Nat} (hi : SimI K wi di) (hg : SimG K g dg js) (hb : SimS K t d) (c0 : d.cost = 0) : SimS K (tFor wi g t) (dFor di dg d) := by
  intro bu DD D σ H G R E r hd k
  refine hi _ σ H G R E _ _ r hd fun J ds H0 G0 l0 r0 it hp => ?_
  obtain ⟨W, w0, turn, done⟩ := hp
  refine ⟨fun i m σ' H' => ∃ G' E', m = ds.length - i ∧ i ≤ ds.length ∧ Le R G0 G' ∧ Rel K bu σ' H' G' R E' ∧ W i E', ⟨_, G0, E, rfl, Nat.zero_le _, Le.refl R G0, r0, w0⟩, ?_⟩
  rintro i m σ1 H1 ⟨G1, E1, rfl, hi, l1, r1, w1⟩
  by_cases hlt : i < ds.length
  · refine .inr ⟨it.1 i H1 (l1.1.trans r1.gh) hlt, fun σ' H' => ∃ G' E', Le R G0 G' ∧ Rel K bu σ' H' G' R E' ∧ W (i + 1) E', ?_, fun x H2 y => ?_⟩
    · rintro σ' H' ⟨G', E', l', r', w'⟩
      exact ⟨ds.length - (i + 1), by omega, G', E', rfl, hlt, l', r', w'⟩
    · have hx : ds[i]? = some ds[i] := List.getElem?_eq_getElem hlt
      obtain ⟨G2, g2, dv⟩ := it.2.2 i _ G1 H1 x H2 hx l1.1 r1.gh y
      have r2 := r1.grow g2
      have l2 := l1.trans (g2.le r1.rh)
      refine hg x _ _ σ1 H2 G2 R E1 _ _ r2 dv (turn i _ E1 hx w1) fun σ3 E3 _ r3 hd3 => ?_
      have k2 := k.mono (l0.trans l2)
      exact hb bu _ _ σ3 H2 G2 R E3 (r3.dn (by omega)) hd3 ⟨fun σ' H' G' E' l' r' q => ⟨G', E', l2.trans l', r', q⟩, k2.rt, k2.nx, fun σ' H' G' E' l' r' q => ⟨G', E', l2.trans l', r', q⟩, k2.rx⟩
  · have e : i = ds.length := by omega
    subst e
    exact .inl ⟨it.2.1 H1 (l1.1.trans r1.gh), k.nx σ1 H1 G1 E1 (l0.trans l1) r1 (done E1 w1)⟩
/-- with calls on the state within: at most 4096 turns -/
def dForS (di : DN) (dg : DG) (d : DS) : DS := ⟨fun DD E => di E fun ds => ds.length ≤ 4096 ∧ ∃ W : Nat → Env → Prop, W 0 E ∧ (∀ i x E1, ds[i]? = some x → W i E1 → dg x E1 fun E2 => d { nx := W (i + 1), ct := W (i + 1), bk := DD.nx, rt := DD.rt, wx := DD.wx, rx := DD.rx } E2) ∧ ∀ E1, W ds.length E1 → DD.nx E1, 4096 * d.cost + di.cost⟩
theorem sims_forS {wi : TI} {di : DN} {g : TG} {dg : DG} {js : List Nat} (hi : SimI K wi di) (hg : SimG K g dg js) (hb : SimS K t d) : SimS K (tFor wi g t) (dForS di dg d) := by
  intro bu DD D σ H G R E r hd k
  have cst : (dForS di dg d).cost = 4096 * d.cost + di.cost := rfl
  rw [cst] at r
  refine hi (bu + 4096 * d.cost) σ H G R E _ _ (r.dn (by omega)) hd fun J ds H0 G0 l0 r0 it hp => ?_
  obtain ⟨hsz, W, w0, turn, done⟩ := hp
  have le : ds.length * d.cost ≤ 4096 * d.cost := Nat.mul_le_mul_right _ hsz
  refine ⟨fun i m σ' H' => ∃ G' E', m = ds.length - i ∧ i ≤ ds.length ∧ Le R G0 G' ∧ Rel K (bu + (ds.length - i) * d.cost) σ' H' G' R E' ∧ W i E', ⟨_, G0, E, rfl, Nat.zero_le _, Le.refl R G0, r0.dn (by rw [Nat.sub_zero]; omega), w0⟩, ?_⟩
  rintro i m σ1 H1 ⟨G1, E1, rfl, hi, l1, r1, w1⟩
  by_cases hlt : i < ds.length
  · have eb : (ds.length - i) * d.cost = (ds.length - (i + 1)) * d.cost + d.cost := by
      rw [← Nat.succ_mul]
      congr 1
      omega
    rw [eb] at r1
    refine .inr ⟨it.1 i H1 (l1.1.trans r1.gh) hlt, fun σ' H' => ∃ G' E', Le R G0 G' ∧ Rel K (bu + (ds.length - (i + 1)) * d.cost) σ' H' G' R E' ∧ W (i + 1) E', ?_, fun x H2 y => ?_⟩
    · rintro σ' H' ⟨G', E', l', r', w'⟩
      exact ⟨ds.length - (i + 1), by omega, G', E', rfl, hlt, l', r', w'⟩
    · have hx : ds[i]? = some ds[i] := List.getElem?_eq_getElem hlt
      obtain ⟨G2, g2, dv⟩ := it.2.2 i _ G1 H1 x H2 hx l1.1 r1.gh y
      have r2 := r1.grow g2
      have l2 := l1.trans (g2.le r1.rh)
      refine hg x _ _ σ1 H2 G2 R E1 _ _ r2 dv (turn i _ E1 hx w1) fun σ3 E3 _ r3 hd3 => ?_
      have k2 := (k.mono (l0.trans l2)).dn (Nat.le_add_right bu ((ds.length - (i + 1)) * d.cost))
      exact hb (bu + (ds.length - (i + 1)) * d.cost) _ _ σ3 H2 G2 R E3 (r3.dn (by omega)) hd3 ⟨fun σ' H' G' E' l' r' q => ⟨G', E', l2.trans l', r', q⟩, k2.rt, k2.nx, fun σ' H' G' E' l' r' q => ⟨G', E', l2.trans l', r', q⟩, k2.rx⟩
  · have e : i = ds.length := by omega
    subst e
    exact .inl ⟨it.2.1 H1 (l1.1.trans r1.gh), k.nx σ1 H1 G1 E1 (l0.trans l1) r1.fin (done E1 w1)⟩
end
end DL

namespace DL
open PySem PySem.Spec PyProof.Rows L2
open Evl (Ex)
/-! ### comprehensions -/
def plainC : C → Bool
  | .no => true
  | .d _ => true
  | .scr _ => true
  | .v _ => true
  | .e _ _ => true
  | _ => false
/-- the names that a comprehension takes hold nothing of our own -/
def plainAt (E : Env) (vs : List Nat) : Bool := vs.all fun i => match E[i]? with
  | some c => plainC c
  | none => true
section
variable {bu : Nat} {X : Cx} {K : PySem.W.Frag} {σ : L2.St} {H H' G G' R R' : Hp} {E : Env}
theorem Rel.wipe (r : Rel K bu σ H G R E) : ∀ vs : List Nat, Rel K bu (L2.wipe σ vs) H G R (wipeE E vs)
  | [] => r
  | v :: vs => (r.wipe vs).forget
theorem Cells.of_get : ∀ {σ : L2.St} {E : Env} {fps : List (List Addr)}, σ.length = E.length → fps.length = E.length →
    (∀ (i : Nat) (v : Option V) (c : C) (fp : List Addr), σ[i]? = some v → E[i]? = some c → fps[i]? = some fp → CellOk K bu G H v c fp) → Cells K bu G H σ E fps
  | [], [], [], _, _, _ => .nil
  | v :: σ, c :: E, fp :: fps, h1, h2, h => .cons (h 0 v c fp rfl rfl rfl) (Cells.of_get (by simpa using h1) (by simpa using h2) fun i v c fp a b d => h (i + 1) v c fp (by simpa using a) (by simpa using b) (by simpa using d))
  | [], _ :: _, _, h1, _, _ => by simp at h1
  | _ :: _, [], _, h1, _, _ => by simp at h1
  | [], [], _ :: _, _, h2, _ => by simp at h2
  | _ :: _, _ :: _, [], _, h2, _ => by simp at h2
theorem wipe_ne {i : Nat} : ∀ {vs : List Nat} {σ : L2.St}, i ∉ vs → (L2.wipe σ vs)[i]? = σ[i]?
  | [], _, _ => rfl
  | v :: vs, σ, h => by
    show ((L2.wipe σ vs).set v none)[i]? = σ[i]?
    have hv : v ≠ i := fun e => h (by rw [e]; exact List.mem_cons_self)
    rw [List.getElem?_set_ne hv, wipe_ne fun z => h (List.mem_cons_of_mem _ z)]
theorem wipeE_ne {i : Nat} : ∀ {vs : List Nat} {E : Env}, i ∉ vs → (wipeE E vs)[i]? = E[i]?
  | [], _, _ => rfl
  | v :: vs, E, h => by
    show ((wipeE E vs).set v .no)[i]? = E[i]?
    have hv : v ≠ i := fun e => h (by rw [e]; exact List.mem_cons_self)
    rw [List.getElem?_set_ne hv, wipeE_ne fun z => h (List.mem_cons_of_mem _ z)]
theorem wipeE_in {i : Nat} {c : C} : ∀ {vs : List Nat} {E : Env}, i ∈ vs → (wipeE E vs)[i]? = some c → c = .no
  | [], _, h, _ => by cases h
  | v :: vs, E, h, e => by
    have e' : ((wipeE E vs).set v .no)[i]? = some c := e
    by_cases hv : v = i
    · subst hv
      have hl : v < ((wipeE E vs).set v .no).length := (List.getElem?_eq_some_iff.mp e').1
      rw [List.getElem?_set_self (by simpa using hl)] at e'
      exact (Option.some.inj e').symm
    · rw [List.getElem?_set_ne hv] at e'
      rcases List.mem_cons.mp h with h | h
      · exact absurd h.symm hv
      · exact wipeE_in h e'
theorem plain_fp {v : Option V} {c : C} {fp : List Addr} {b0 : Nat} (h : CellOk K b0 G H v c fp) (p : plainC c = true) : fp = [] ∧ ∀ H', CellOk K bu G H' v c [] := by
  cases c with
  | no => exact ⟨h, fun _ => rfl⟩
  | d x => exact ⟨h.1, fun _ => ⟨rfl, h.2⟩⟩
  | scr ns => exact ⟨h.1, fun _ => ⟨rfl, h.2⟩⟩
  | v _ => exact ⟨h.1, fun _ => ⟨rfl, h.2⟩⟩
  | e _ _ => exact ⟨h.1, fun _ => ⟨rfl, h.2⟩⟩
  | w _ _ _ => cases p
  | l _ => cases p
  | k _ => cases p
  | s _ => cases p
theorem Rel.unwipe {vs : List Nat} {b0 : Nat} (r : Rel K b0 σ H G R E) (l : Ex G G') (r' : Rel K bu (L2.wipe σ vs) H' G' R' (wipeE E vs)) (p : plainAt E vs = true) : Rel K bu σ H' G' R' E := by
  obtain ⟨fps, c, _, _⟩ := r.fps
  obtain ⟨fps', c', n', d'⟩ := r'.fps
  obtain ⟨l1, l2⟩ := c.len
  obtain ⟨l1', l2'⟩ := c'.len
  have hlen : (wipeE E vs).length = E.length := by
    clear p r' c' l1' l2' n' d'
    induction vs with
    | nil => rfl
    | cons v vs ih => show ((wipeE E vs).set v .no).length = _; rw [List.length_set, ih]
  refine ⟨r'.gh, r'.rh, fps', Cells.of_get l1 (by omega) fun i v c1 fp h1 h2 h3 => ?_, n', d'⟩
  by_cases hi : i ∈ vs
  · have pc : plainC c1 = true := by
      have q := List.all_eq_true.mp p i hi
      rw [h2] at q
      exact q
    obtain ⟨v0, fp0, e1, e2, ok⟩ := c.get h2
    rw [h1] at e1
    cases e1
    obtain ⟨_, ok2⟩ := plain_fp (bu := bu) (ok.mono l fun a ha => rfl) pc
    have hw : (wipeE E vs)[i]? = some .no := by
      have hil : i < (wipeE E vs).length := by rw [hlen]; exact (List.getElem?_eq_some_iff.mp h2).1
      have e3 := List.getElem?_eq_getElem hil
      rw [e3]
      exact congrArg some (wipeE_in hi e3)
    obtain ⟨v4, fp4, _, e5, ok4⟩ := c'.get hw
    rw [h3] at e5
    cases e5
    have ok5 : fp = [] := ok4
    subst ok5
    exact ok2 H'
  · obtain ⟨v4, fp4, e4, e5, ok4⟩ := c'.get (i := i) (c := c1) (by rw [wipeE_ne hi]; exact h2)
    rw [wipe_ne hi, h1] at e4
    cases e4
    rw [h3] at e5
    cases e5
    exact ok4
end
section
variable {X : Cx} {K : PySem.W.Frag} {te : TE} {de : DE} {tt : TT} {dt : DT} {wi wi1 : TI} {di di1 : DN} {g g1 : TG} {dg dg1 : DG} {js js1 : List Nat}
structure PTsD (X : Cx) (K : PySem.W.Frag) (ifs : List Expr) (t : TT) (dt : DT) : Prop where
  pts : PTs X ifs t
  sim : SimT K t dt
def dYes : DT := ⟨fun _ P => P true, 0⟩
theorem st_yes : SimT K tYes dYes := fun _ _ H G R _ _ _ r hd k => k true H G (Le.refl R G) r hd
/-- [e for .. in .. if ..] -/
def dLc (di : DN) (dg : DG) (dt : DT) (de : DE) (vs : List Nat) : DN := ⟨fun E P => plainAt E vs = true ∧ di E fun ds => ∃ W : Nat → List PyData → Prop, W 0 [] ∧ ds.length < sizeLine ∧
  (∀ i x acc, ds[i]? = some x → W i acc → dg x (wipeE E vs) fun E2 => dt E2 fun b => Br b (de E2 fun y => W (i + 1) (acc ++ [y])) (W (i + 1) acc)) ∧ ∀ acc, W ds.length acc → P acc, di.cost⟩
/-- .. with calls on the state within -/
def dLcS (di : DN) (dg : DG) (dt : DT) (de : DE) (vs : List Nat) : DN := ⟨fun E P => plainAt E vs = true ∧ di E fun ds => ∃ W : Nat → List PyData → Prop, W 0 [] ∧ ds.length ≤ 4096 ∧
  (∀ i x acc, ds[i]? = some x → W i acc → dg x (wipeE E vs) fun E2 => dt E2 fun b => Br b (de E2 fun y => W (i + 1) (acc ++ [y])) (W (i + 1) acc)) ∧ ∀ acc, W ds.length acc → P acc, 4096 * (dt.cost + de.cost) + di.cost⟩
theorem upd_none {R : Hp} {p : Addr} {o : HO} : (upd R p o) p ≠ none := by rw [upd_same]; intro z; cases z
theorem sim_lc {vs : List Nat} (hi : SimI K wi di) (hg : SimG K g dg js) (hj : ∀ j ∈ js, j ∈ vs) (ht : SimT K tt dt) (he : Sim K te de) (c0 : dt.cost + de.cost = 0) : SimN K (tLc wi g tt te vs) (dLc di dg dt de vs) := by
  intro bu σ H G R E Q P r hd k
  obtain ⟨pl, hd⟩ := hd
  refine hi bu σ H G R E _ _ r hd fun J ds H0 G0 l0 r0 it hp => ?_
  obtain ⟨W, w0, hsz, turn, done⟩ := hp
  intro D hD
  have hR : R D = none := ex_none r0.rh hD
  refine ⟨fun i m H' => ∃ G' accV acc, m = ds.length - i ∧ i ≤ ds.length ∧ Le R G0 G' ∧ G' D = none ∧ Rel K bu (wipe σ vs) H' G' (upd R D (.lst accV)) (wipeE E vs) ∧ Dvs K G' accV acc ∧ acc.length ≤ i ∧ W i acc,
    ⟨_, G0, [], [], rfl, Nat.zero_le _, Le.refl R G0, ex_none r0.gh hD, (r0.hold hD).wipe vs, .nil, Nat.le_refl _, w0⟩, ?_⟩
  rintro i m H1 ⟨G1, accV, acc, rfl, hil, l1, hg1, r1, dvs, ha, w1⟩
  by_cases hlt : i < ds.length
  · refine .inr ⟨it.1 i H1 (l1.1.trans r1.gh) hlt, fun H' => ∃ G' accV acc, Le R G0 G' ∧ G' D = none ∧ Rel K bu (wipe σ vs) H' G' (upd R D (.lst accV)) (wipeE E vs) ∧ Dvs K G' accV acc ∧ acc.length ≤ i + 1 ∧ W (i + 1) acc, ?_, fun x H2 y => ?_⟩
    · rintro H' ⟨G', aV, a, h1, h2, h3, h4, h5, h6⟩
      exact ⟨ds.length - (i + 1), by omega, G', aV, a, rfl, hlt, h1, h2, h3, h4, h5, h6⟩
    · have hx : ds[i]? = some ds[i] := List.getElem?_eq_getElem hlt
      obtain ⟨G2, g2, dv⟩ := it.2.2 i _ G1 H1 x H2 hx l1.1 r1.gh y
      have r2 := r1.grow g2
      have l2' := g2.le r1.rh
      refine hg x _ bu (wipe σ vs) H2 G2 _ (wipeE E vs) _ _ r2 dv (turn i _ acc hx w1) fun σ3 E3 hw r3 hd3 => ?_
      obtain ⟨hw3, hwE⟩ := hw vs hj
      rw [wipe_wipe] at hw3
      rw [wipeE_wipeE] at hwE
      refine ⟨hw3, ?_⟩
      refine ht bu σ3 H2 G2 _ E3 _ _ (r3.dn (by omega)) hd3 fun b H4 G4 l4 r4 hb => ?_
      cases b with
      | true =>
        rw [if_pos rfl]
        refine he bu σ3 H4 G4 _ E3 _ _ (r4.dn (by omega)) (hb.t rfl) fun yv yd H5 G5 l5 r5 hy hW => ?_
        have lD := (l2'.trans l4).trans l5
        have hg5 : G5 D = none := (lD.2 D upd_none).trans hg1
        have r6 := (r5.held (o := .lst (accV ++ [yv])) upd_same hg5).wipe vs
        rw [upd_upd, hw3, hwE] at r6
        exact ⟨accV, r5.rh D _ upd_same, by rw [dvs.length]; omega, G5, accV ++ [yv], acc ++ [yd], l1.trans (lD.less (Ex.new hR)), hg5, r6, (dvs.mono lD.1).append (.one hy), by rw [List.length_append]; simp; omega, hW⟩
      | false =>
        rw [if_neg Bool.false_ne_true]
        have lD := l2'.trans l4
        have r6 := r4.wipe vs
        rw [hw3, hwE] at r6
        exact ⟨G4, accV, acc, l1.trans (lD.less (Ex.new hR)), (lD.2 D upd_none).trans hg1, r6, dvs.mono lD.1, by omega, hb.f rfl⟩
  · have e : i = ds.length := by omega
    subst e
    refine .inl ⟨it.2.1 H1 (l1.1.trans r1.gh), ?_⟩
    have r2 := r.unwipe (vs := vs) (l0.1.trans l1.1) r1 pl
    exact k D accV acc H1 G1 (l0.trans l1) hR hg1 r2 dvs (done acc w1)
theorem sim_lcS {vs : List Nat} (hi : SimI K wi di) (hg : SimG K g dg js) (hj : ∀ j ∈ js, j ∈ vs) (ht : SimT K tt dt) (he : Sim K te de) : SimN K (tLc wi g tt te vs) (dLcS di dg dt de vs) := by
  intro bu σ H G R E Q P r hd k
  have cst : (dLcS di dg dt de vs).cost = 4096 * (dt.cost + de.cost) + di.cost := rfl
  rw [cst] at r
  generalize hc : dt.cost + de.cost = c at r
  obtain ⟨pl, hd⟩ := hd
  refine hi (bu + 4096 * c) σ H G R E _ _ (r.dn (by omega)) hd fun J ds H0 G0 l0 r0 it hp => ?_
  obtain ⟨W, w0, hsz0, turn, done⟩ := hp
  have hsz : ds.length < sizeLine := by rw [sizeLine_eq]; omega
  have le : ds.length * c ≤ 4096 * c := Nat.mul_le_mul_right _ hsz0
  intro D hD
  have hR : R D = none := ex_none r0.rh hD
  refine ⟨fun i m H' => ∃ G' accV acc, m = ds.length - i ∧ i ≤ ds.length ∧ Le R G0 G' ∧ G' D = none ∧ Rel K (bu + (ds.length - i) * c) (wipe σ vs) H' G' (upd R D (.lst accV)) (wipeE E vs) ∧ Dvs K G' accV acc ∧ acc.length ≤ i ∧ W i acc,
    ⟨_, G0, [], [], rfl, Nat.zero_le _, Le.refl R G0, ex_none r0.gh hD, ((r0.dn (by rw [Nat.sub_zero]; omega)).hold hD).wipe vs, .nil, Nat.le_refl _, w0⟩, ?_⟩
  rintro i m H1 ⟨G1, accV, acc, rfl, hil, l1, hg1, r1, dvs, ha, w1⟩
  by_cases hlt : i < ds.length
  · have eb : (ds.length - i) * c = (ds.length - (i + 1)) * c + c := by
      rw [← Nat.succ_mul]
      congr 1
      omega
    rw [eb] at r1
    refine .inr ⟨it.1 i H1 (l1.1.trans r1.gh) hlt, fun H' => ∃ G' accV acc, Le R G0 G' ∧ G' D = none ∧ Rel K (bu + (ds.length - (i + 1)) * c) (wipe σ vs) H' G' (upd R D (.lst accV)) (wipeE E vs) ∧ Dvs K G' accV acc ∧ acc.length ≤ i + 1 ∧ W (i + 1) acc, ?_, fun x H2 y => ?_⟩
    · rintro H' ⟨G', aV, a, h1, h2, h3, h4, h5, h6⟩
      exact ⟨ds.length - (i + 1), by omega, G', aV, a, rfl, hlt, h1, h2, h3, h4, h5, h6⟩
    · have hx : ds[i]? = some ds[i] := List.getElem?_eq_getElem hlt
      obtain ⟨G2, g2, dv⟩ := it.2.2 i _ G1 H1 x H2 hx l1.1 r1.gh y
      have r2 := r1.grow g2
      have l2' := g2.le r1.rh
      refine hg x _ _ (wipe σ vs) H2 G2 _ (wipeE E vs) _ _ r2 dv (turn i _ acc hx w1) fun σ3 E3 hw r3 hd3 => ?_
      obtain ⟨hw3, hwE⟩ := hw vs hj
      rw [wipe_wipe] at hw3
      rw [wipeE_wipeE] at hwE
      refine ⟨hw3, ?_⟩
      refine ht (bu + (ds.length - (i + 1)) * c + de.cost) σ3 H2 G2 _ E3 _ _ (r3.dn (by omega)) hd3 fun b H4 G4 l4 r4 hb => ?_
      cases b with
      | true =>
        rw [if_pos rfl]
        refine he (bu + (ds.length - (i + 1)) * c) σ3 H4 G4 _ E3 _ _ (r4.dn (by omega)) (hb.t rfl) fun yv yd H5 G5 l5 r5 hy hW => ?_
        have lD := (l2'.trans l4).trans l5
        have hg5 : G5 D = none := (lD.2 D upd_none).trans hg1
        have r6 := (r5.held (o := .lst (accV ++ [yv])) upd_same hg5).wipe vs
        rw [upd_upd, hw3, hwE] at r6
        exact ⟨accV, r5.rh D _ upd_same, by rw [dvs.length]; omega, G5, accV ++ [yv], acc ++ [yd], l1.trans (lD.less (Ex.new hR)), hg5, r6, (dvs.mono lD.1).append (.one hy), by rw [List.length_append]; simp; omega, hW⟩
      | false =>
        rw [if_neg Bool.false_ne_true]
        have lD := l2'.trans l4
        have r6 := (r4.fin).wipe vs
        rw [hw3, hwE] at r6
        exact ⟨G4, accV, acc, l1.trans (lD.less (Ex.new hR)), (lD.2 D upd_none).trans hg1, r6, dvs.mono lD.1, by omega, hb.f rfl⟩
  · have e : i = ds.length := by omega
    subst e
    refine .inl ⟨it.2.1 H1 (l1.1.trans r1.gh), ?_⟩
    have r2 := r.unwipe (vs := vs) (l0.1.trans l1.1) r1 pl
    exact k D accV acc H1 G1 (l0.trans l1) hR hg1 r2.fin dvs (done acc w1)
end
end DL

namespace DL
open PySem PySem.Spec PyProof.Rows L2
open Evl (Ex)
section
variable {X : Cx} {K : PySem.W.Frag} {te : TE} {de : DE} {tt tt1 : TT} {dt dt1 : DT} {wi wi1 : TI} {di di1 : DN} {g g1 : TG} {dg dg1 : DG} {js js1 : List Nat}
theorem wipe_sub {σ : L2.St} {vs1 vs : List Nat} (h : ∀ w ∈ vs1, w ∈ vs) : wipe (wipe σ vs1) vs = wipe σ vs := by
  induction vs1 with
  | nil => rfl
  | cons w ws ih =>
    show wipe ((wipe σ ws).set w none) vs = wipe σ vs
    rw [wipe_set (h w List.mem_cons_self), ih fun z hz => h z (List.mem_cons_of_mem _ hz)]
theorem wipeE_sub {E : Env} {vs1 vs : List Nat} (h : ∀ w ∈ vs1, w ∈ vs) : wipeE (wipeE E vs1) vs = wipeE E vs := by
  induction vs1 with
  | nil => rfl
  | cons w ws ih =>
    show wipeE ((wipeE E ws).set w .no) vs = wipeE E vs
    rw [wipeE_set (h w List.mem_cons_self), ih fun z hz => h z (List.mem_cons_of_mem _ hz)]
/-- [e for .. in .. for .. in ..] -/
def dLc2 (di : DN) (dg : DG) (dt : DT) (di1 : DN) (dg1 : DG) (dt1 : DT) (de : DE) (vs vs1 : List Nat) : DN := ⟨fun E P => plainAt E vs = true ∧ di E fun ds => ∃ W : Nat → List PyData → Prop, W 0 [] ∧
  (∀ i x acc, ds[i]? = some x → W i acc → dg x (wipeE E vs) fun E2 => dt E2 fun b => Br b (plainAt E2 vs1 = true ∧ di1 E2 fun es => ∃ W1 : Nat → List PyData → Prop, W1 0 acc ∧
    (∀ j y acc1, es[j]? = some y → W1 j acc1 → dg1 y (wipeE E2 vs1) fun E3 => dt1 E3 fun b => Br b (de E3 fun z => acc1.length < sizeLine ∧ W1 (j + 1) (acc1 ++ [z])) (W1 (j + 1) acc1)) ∧ ∀ acc1, W1 es.length acc1 → W (i + 1) acc1) (W (i + 1) acc)) ∧ ∀ acc, W ds.length acc → P acc, di.cost⟩
theorem sim_lc2 {vs vs1 : List Nat} (hi : SimI K wi di) (hg : SimG K g dg js) (hj : ∀ j ∈ js, j ∈ vs) (ht : SimT K tt dt) (hi1 : SimI K wi1 di1) (hg1 : SimG K g1 dg1 js1) (hj1 : ∀ j ∈ js1, j ∈ vs1) (hs : ∀ w ∈ vs1, w ∈ vs) (ht1 : SimT K tt1 dt1) (he : Sim K te de) (c0 : dt.cost + (di1.cost + (dt1.cost + de.cost)) = 0) :
    SimN K (tLc2 wi g tt wi1 g1 tt1 te vs vs1) (dLc2 di dg dt di1 dg1 dt1 de vs vs1) := by
  intro bu σ H G R E Q P r hd k
  obtain ⟨pl, hd⟩ := hd
  refine hi bu σ H G R E _ _ r hd fun J ds H0 G0 l0 r0 it hp => ?_
  obtain ⟨W, w0, turn, done⟩ := hp
  intro D hD
  have hR : R D = none := ex_none r0.rh hD
  refine ⟨fun i m H' => ∃ G' accV acc, m = ds.length - i ∧ i ≤ ds.length ∧ Le R G0 G' ∧ G' D = none ∧ Rel K bu (wipe σ vs) H' G' (upd R D (.lst accV)) (wipeE E vs) ∧ Dvs K G' accV acc ∧ W i acc,
    ⟨_, G0, [], [], rfl, Nat.zero_le _, Le.refl R G0, ex_none r0.gh hD, (r0.hold hD).wipe vs, .nil, w0⟩, ?_⟩
  rintro i m H1 ⟨G1, accV, acc, rfl, hil, l1, hg1', r1, dvs, w1⟩
  by_cases hlt : i < ds.length
  · refine .inr ⟨it.1 i H1 (l1.1.trans r1.gh) hlt, fun H' => ∃ G' accV acc, Le R G0 G' ∧ G' D = none ∧ Rel K bu (wipe σ vs) H' G' (upd R D (.lst accV)) (wipeE E vs) ∧ Dvs K G' accV acc ∧ W (i + 1) acc, ?_, fun x H2 y => ?_⟩
    · rintro H' ⟨G', aV, a, h1, h2, h3, h4, h6⟩
      exact ⟨ds.length - (i + 1), by omega, G', aV, a, rfl, hlt, h1, h2, h3, h4, h6⟩
    · have hx : ds[i]? = some ds[i] := List.getElem?_eq_getElem hlt
      obtain ⟨G2, g2, dv⟩ := it.2.2 i _ G1 H1 x H2 hx l1.1 r1.gh y
      have r2 := r1.grow g2
      have l2' := g2.le r1.rh
      refine hg x _ bu (wipe σ vs) H2 G2 _ (wipeE E vs) _ _ r2 dv (turn i _ acc hx w1) fun σ3 E3 hw r3 hd3 => ?_
      obtain ⟨hw3, hwE⟩ := hw vs hj
      rw [wipe_wipe] at hw3
      rw [wipeE_wipeE] at hwE
      refine ⟨hw3, ?_⟩
      refine ht bu σ3 H2 G2 _ E3 _ _ (r3.dn (by omega)) hd3 fun b H4 G4 l4 r4 hb => ?_
      have lD4 := l2'.trans l4
      have l04 : Le R G0 G4 := l1.trans (lD4.less (Ex.new hR))
      have hg4 : G4 D = none := (lD4.2 D upd_none).trans hg1'
      cases b with
      | false =>
        rw [if_neg Bool.false_ne_true]
        have r6 := r4.wipe vs
        rw [hw3, hwE] at r6
        exact ⟨G4, accV, acc, l04, hg4, r6, dvs.mono lD4.1, hb.f rfl⟩
      | true =>
        rw [if_pos rfl]
        obtain ⟨pl1, hd4⟩ := hb.t rfl
        refine hi1 bu σ3 H4 G4 _ E3 _ _ (r4.dn (by omega)) hd4 fun J1 es H5 G5 l5 r5 it1 hp1 => ?_
        obtain ⟨W1, w10, turn1, done1⟩ := hp1
        have lD5 := lD4.trans l5
        have hg5 : G5 D = none := (lD5.2 D upd_none).trans hg1'
        have l05 : Le R G0 G5 := l1.trans (lD5.less (Ex.new hR))
        refine ⟨fun j n H' => ∃ G' aV a, n = es.length - j ∧ j ≤ es.length ∧ Le R G5 G' ∧ G' D = none ∧ Rel K bu (wipe σ3 vs1) H' G' (upd R D (.lst aV)) (wipeE E3 vs1) ∧ Dvs K G' aV a ∧ W1 j a,
          ⟨_, G5, accV, acc, rfl, Nat.zero_le _, Le.refl R G5, hg5, r5.wipe vs1, dvs.mono lD5.1, w10⟩, ?_⟩
        rintro j n H6 ⟨G6, aV, a, rfl, hjl, l6, hg6, r6, dvs6, w6⟩
        by_cases hlt1 : j < es.length
        · refine .inr ⟨it1.1 j H6 (l6.1.trans r6.gh) hlt1, fun H' => ∃ G' aV a, Le R G5 G' ∧ G' D = none ∧ Rel K bu (wipe σ3 vs1) H' G' (upd R D (.lst aV)) (wipeE E3 vs1) ∧ Dvs K G' aV a ∧ W1 (j + 1) a, ?_, fun x1 H7 y1 => ?_⟩
          · rintro H' ⟨G', aV, a, h1, h2, h3, h4, h6⟩
            exact ⟨es.length - (j + 1), by omega, G', aV, a, rfl, hlt1, h1, h2, h3, h4, h6⟩
          · have hx1 : es[j]? = some es[j] := List.getElem?_eq_getElem hlt1
            obtain ⟨G7, g7, dv7⟩ := it1.2.2 j _ G6 H6 x1 H7 hx1 l6.1 r6.gh y1
            have r7 := r6.grow g7
            have l7 := g7.le r6.rh
            refine hg1 x1 _ bu (wipe σ3 vs1) H7 G7 _ (wipeE E3 vs1) _ _ r7 dv7 (turn1 j _ a hx1 w6) fun σ8 E8 hw8 r8 hd8 => ?_
            obtain ⟨hw9, hwE9⟩ := hw8 vs1 hj1
            rw [wipe_wipe] at hw9
            rw [wipeE_wipeE] at hwE9
            refine ⟨hw9, ?_⟩
            refine ht1 bu σ8 H7 G7 _ E8 _ _ (r8.dn (by omega)) hd8 fun b H9 G9 l9 r9 hb9 => ?_
            have lD9 := l7.trans l9
            cases b with
            | true =>
              rw [if_pos rfl]
              refine he bu σ8 H9 G9 _ E8 _ _ (r9.dn (by omega)) (hb9.t rfl) fun yv yd HA GA lA rA hyA hWA => ?_
              have lDA := lD9.trans lA
              have hgA : GA D = none := (lDA.2 D upd_none).trans hg6
              have rB := (rA.held (o := .lst (aV ++ [yv])) upd_same hgA).wipe vs1
              rw [upd_upd, hw9, hwE9] at rB
              exact ⟨aV, rA.rh D _ upd_same, by rw [dvs6.length]; exact hWA.1, GA, aV ++ [yv], a ++ [yd], l6.trans (lDA.less (Ex.new hR)), hgA, rB, (dvs6.mono lDA.1).append (.one hyA), hWA.2⟩
            | false =>
              rw [if_neg Bool.false_ne_true]
              have rB := r9.wipe vs1
              rw [hw9, hwE9] at rB
              exact ⟨G9, aV, a, l6.trans (lD9.less (Ex.new hR)), (lD9.2 D upd_none).trans hg6, rB, dvs6.mono lD9.1, hb9.f rfl⟩
        · have e : j = es.length := by omega
          subst e
          have rB := r6.wipe vs
          rw [wipe_sub hs, wipeE_sub hs, hw3, hwE] at rB
          exact .inl ⟨it1.2.1 H6 (l6.1.trans r6.gh), G6, aV, a, l05.trans l6, hg6, rB, dvs6, done1 a w6⟩
  · have e : i = ds.length := by omega
    subst e
    refine .inl ⟨it.2.1 H1 (l1.1.trans r1.gh), ?_⟩
    have r2 := r.unwipe (vs := vs) (l0.1.trans l1.1) r1 pl
    exact k D accV acc H1 G1 (l0.trans l1) hR hg1' r2 dvs (done acc w1)
end

/-! ### defs -/
def startE (n : Nat) (ds : List PyData) : Env := ds.map C.d ++ List.replicate (n - ds.length) .no
theorem cells_start {K : PySem.W.Frag} {bu : Nat} {G H : Hp} {n : Nat} : ∀ {vs : List V} {ds : List PyData}, Dvs K G vs ds → Cells K bu G H (vs.map some ++ List.replicate n none) (ds.map C.d ++ List.replicate n .no) (ds.map (fun _ => []) ++ List.replicate n [])
  | _, _, .nil => by
    induction n with
    | zero => exact .nil
    | succ n ih => exact .cons (v := none) (c := .no) (fp := []) rfl ih
  | _, _, .cons h r => .cons (c := .d _) (fp := []) ⟨rfl, _, rfl, h⟩ (cells_start r)
theorem flat_nil {α : Type} {ls : List (List α)} (h : ∀ l ∈ ls, l = []) : ls.flatten = [] := by
  induction ls with
  | nil => rfl
  | cons l ls ih =>
    rw [List.flatten_cons, h l List.mem_cons_self, ih fun m hm => h m (List.mem_cons_of_mem _ hm)]
    rfl
theorem rel_start {K : PySem.W.Frag} {bu : Nat} {G H R : Hp} {N : List Str} {vs : List V} {ds : List PyData} (e : Ex G H) (er : Ex R H) (h : Dvs K G vs ds) : Rel K bu (L2.start N vs) H G R (startE N.length ds) := by
  have hl := h.length
  have hf : (ds.map (fun _ => ([] : List Addr)) ++ List.replicate (N.length - vs.length) []).flatten = [] := flat_nil fun l hm => by
    rcases List.mem_append.mp hm with hm | hm
    · obtain ⟨_, _, rfl⟩ := List.mem_map.mp hm
      rfl
    · exact (List.mem_replicate.mp hm).2
  refine ⟨e, er, _, ?_, by rw [hf]; exact List.nodup_nil, fun a ha => by rw [hf] at ha; cases ha⟩
  unfold L2.start startE
  rw [← hl]
  exact cells_start h
section
variable {P : Program} {w : World} {K : PySem.W.Frag} {mg : Str → Option Value} {base : Heap} {x qual : Str} {params : Arguments} {body : List Stmt} {scope : Scope} {f : Addr} {fd : FuncData} {N ps : List Str} {k : Nat}
/-- a def of data: its body, read over data -/
theorem fn_pure {φ : List PyData → (PyData → Prop) → Prop} (F : FunD K x qual params body scope [] [] f fd) (S : FnScope N ps scope) (hφ : ∀ ds Q, φ ds Q → ds.length = ps.length)
    (hbody : ∀ (cdv : Value) (A : Around) (outer : List PySem.Env) (s : Shared) (H : Hp) (E : XK), Room k (A.deeper (envOfC qual scope s.heap.objs.size f cdv)) →
      ∃ t d, PSsD (cxOf L2.CX0 P w K mg base N qual scope f cdv A outer s H E).nox K body t d ∧ ∀ ds Q, φ ds Q → d { nx := fun _ => Q .none, rt := fun x _ => Q x } (startE N.length ds)) :
    FnOk P w K mg base L2.CX0 (k + 1) f fd ps (spD K φ) := by
  refine F.ok S (fun vs H Q E h => ?_) (fun cdv A outer s H vs Q E hr h => ?_)
  · obtain ⟨G, ds, _, _, hv, hp, _⟩ := h
    rw [hv.length]
    exact hφ ds _ hp
  · obtain ⟨G, ds, Pq, eg, hv, hp, fin⟩ := h
    obtain ⟨t, d, hps, hread⟩ := hbody cdv A outer s H E hr
    refine ⟨t, PSs.nox hps.ps, ?_⟩
    refine hps.sim 0 _ _ (L2.start N vs) H G H (startE N.length ds) (rel_start eg (Ex.refl H) hv) (hread ds _ hp) ⟨fun σ' H' G' E' l r hn => ?_, fun v d' σ' H' G' E' l r hv' hn => ?_, fun _ _ _ _ _ _ h => h.elim, fun _ _ _ _ _ _ h => h.elim, fun _ _ _ _ _ _ _ _ _ _ h => h.elim⟩
    · exact fin _ _ _ _ hn ⟨l.1, r.rh, r.gh, l.2⟩ .non
    · exact fin _ _ _ _ hn ⟨l.1, r.rh, r.gh, l.2⟩ hv'
end
/-- what a call asks -/
structure Fn (P : Program) (w : World) (K : PySem.W.Frag) (mg : Str → Option Value) (base : Heap) (k : Nat) (x : Str) (sp : Sp) : Prop where
  ex : ∃ (f : Addr) (fd : FuncData) (ps : List Str), FnOk P w K mg base L2.CX0 k f fd ps sp ∧ mg x = some (.ref f) ∧ PySem.W.keepIn K (.ref f) = true ∧ Binds K fd ps []
theorem Fn.mk' {P : Program} {w : World} {K : PySem.W.Frag} {mg : Str → Option Value} {base : Heap} {k : Nat} {x : Str} {sp : Sp} {f : Addr} {fd : FuncData} {ps : List Str} (h : FnOk P w K mg base L2.CX0 k f fd ps sp) (g : mg x = some (.ref f)) (kp : PySem.W.keepIn K (.ref f) = true) (b : Binds K fd ps []) : Fn P w K mg base k x sp :=
  ⟨⟨f, fd, ps, h, g, kp, b⟩⟩

/-! ### the terms -/
section
variable {X : Cx} {K : PySem.W.Frag} {e a b c : Expr} {es : List Expr} {pos p : Pos} {ta tb tc te : TE} {da db dc de : DE} {tt tt1 : TT} {dt dt1 : DT} {n : Nat}
theorem pd_v (i : Nat) {x : Str} (hN : X.N[i]? = some x := by rfl) (hv : Vis X.env.scope x := by first | exact Or.inl rfl | exact Or.inr (Or.inl rfl) | exact Or.inr (Or.inr rfl)) (hd : (x == ("__debug__" : Str)) = false := by decide)
    (hcd : (x == ("__classdict__" : Str)) = false := by decide) : PD X K (.Name x pos) (tVar i) (dVar i) := ⟨pe_var hN hv hd hcd, sim_var⟩
theorem pd_i {i : Int} {j pos} : PD X K (.Constant (.int i) j pos) (tC (.int i)) (dC (.int i)) := ⟨pe_int, sim_c fun _ => .int i⟩
theorem pd_b {i : Bool} {j pos} : PD X K (.Constant (.bool i) j pos) (tC (.bl i)) (dC (.bool i)) := ⟨pe_bl, sim_c fun _ => .bl i⟩
theorem pd_n {j pos} : PD X K (.Constant .none j pos) (tC .non) (dC .none) := ⟨pe_non, sim_c fun _ => .non⟩
theorem pd_s {x : Str} {j pos} : PD X K (.Constant (.str x) j pos) (tC (.str x)) (dC (.str x)) := ⟨pe_str, sim_c fun _ => .str x⟩
/-- a whole number of the module -/
theorem pd_g {x : Str} {i : Int} (hm : ∃ t, X.mg x = some (.int i t)) (hg : Gl X x := by rfl) (hd : (x == ("__debug__" : Str)) = false := by decide) : PD X K (.Name x pos) (tC (.int i)) (dC (.int i)) := by
  obtain ⟨t, hm⟩ := hm
  exact ⟨pe_glob hg hm ⟨t, rfl⟩ hd, sim_c fun _ => .int i⟩
theorem pd_add (ha : PD X K a ta da) (hb : PD X K b tb db) (hK : X.K = K := by rfl) : PD X K (.BinOp a .Add b pos) (tOp (rAddA K) ta tb) (dOp fAdd da db) := by
  subst hK
  exact ⟨pe_op op_addA ha.pe hb.pe, sim_op ha.sim hb.sim vs_add⟩
theorem pd_sub (ha : PD X K a ta da) (hb : PD X K b tb db) : PD X K (.BinOp a .Sub b pos) (tOp (rI0 fun i j => .int (i - j)) ta tb) (dOp (fInt0 fun i j => i - j) da db) := ⟨pe_op op_sub ha.pe hb.pe, sim_op ha.sim hb.sim vs_int0⟩
theorem pd_mul (ha : PD X K a ta da) (hb : PD X K b tb db) : PD X K (.BinOp a .Mult b pos) (tOp rMulA ta tb) (dOp fMul da db) := ⟨pe_op op_mulA ha.pe hb.pe, sim_op ha.sim hb.sim vs_mul⟩
theorem pn_rep (ha : PD X K a ta da) (hb : PD X K b tb db) : PN X K (.BinOp a .Mult b pos) (tOp rMulA ta tb) (dOpN fRepN da db) := ⟨pe_op op_mulA ha.pe hb.pe, sim_opN ha.sim hb.sim vn_rep⟩
theorem pn_cat (ha : PD X K a ta da) (hb : PD X K b tb db) (hK : X.K = K := by rfl) : PN X K (.BinOp a .Add b pos) (tOp (rAddA K) ta tb) (dOpN fCatN da db) := by
  subst hK
  exact ⟨pe_op op_addA ha.pe hb.pe, sim_opN ha.sim hb.sim vn_cat⟩
theorem pd_fdiv (ha : PD X K a ta da) (hb : PD X K b tb db) : PD X K (.BinOp a .FloorDiv b pos) (tOp (rI CDivW fun i j => .int (i / j)) ta tb) (dOp (fInt CDivW fun i j => i / j) da db) := ⟨pe_op op_fdivW ha.pe hb.pe, sim_op ha.sim hb.sim vs_int⟩
theorem pd_mod (ha : PD X K a ta da) (hb : PD X K b tb db) : PD X K (.BinOp a .Mod b pos) (tOp (rI (fun _ j => 0 < j) fun i j => .int (i % j)) ta tb) (dOp (fInt (fun _ j => 0 < j) fun i j => i % j) da db) := ⟨pe_op op_mod ha.pe hb.pe, sim_op ha.sim hb.sim vs_int⟩
theorem pd_pow (ha : PD X K a ta da) (hb : PD X K b tb db) : PD X K (.BinOp a .Pow b pos) (tOp (rI CPow fun i j => .int (i ^ j.toNat)) ta tb) (dOp (fInt CPow fun i j => i ^ j.toNat) da db) := ⟨pe_op op_pow ha.pe hb.pe, sim_op ha.sim hb.sim vs_int⟩
theorem pd_neg (ha : PD X K a ta da) : PD X K (.UnaryOp .USub a pos) (tUn (rU fun i => .int (-i)) ta) (dUn fNeg da) := ⟨pe_un un_neg ha.pe, sim_un ha.sim us_neg⟩
/-- comparisons, as values and as tests -/
structure CmpR (X : Cx) (K : PySem.W.Frag) (op : CmpOp) (r : R2) (f : PyData → PyData → (PyData → Prop) → Prop) : Prop where
  op : OpR X (compareOp op) r
  vs : VSim K r f
theorem c_lt : CmpR X K .Lt (rI0 fun i j => .bl (decide (i < j))) (fCmp fun i j => decide (i < j)) := ⟨op_lt, vs_cmp⟩
theorem c_le : CmpR X K .LtE (rI0 fun i j => .bl (decide (i ≤ j))) (fCmp fun i j => decide (i ≤ j)) := ⟨op_le, vs_cmp⟩
theorem c_gt : CmpR X K .Gt (rI0 fun i j => .bl (decide (j < i))) (fCmp fun i j => decide (j < i)) := ⟨op_gt, vs_cmp⟩
theorem c_ge : CmpR X K .GtE (rI0 fun i j => .bl (decide (j ≤ i))) (fCmp fun i j => decide (j ≤ i)) := ⟨op_ge, vs_cmp⟩
theorem c_eq (hr : Room n X.A) (hK : X.K = K := by rfl) : CmpR X K .Eq (rEqD K) (fEq false) := by
  subst hK
  exact ⟨op_eqD hr.units, vs_eq⟩
theorem c_ne (hr : Room n X.A) (hK : X.K = K := by rfl) : CmpR X K .NotEq (rNeD K) (fEq true) := by
  subst hK
  exact ⟨op_neD hr.units, vs_ne⟩
theorem c_is : CmpR X K .Is (rIsC false) (fIs false) := ⟨op_isC, vs_is⟩
theorem c_isnot : CmpR X K .IsNot (rIsC true) (fIs true) := ⟨op_isnotC, vs_is⟩
theorem c_in (hK : X.K = K := by rfl) : CmpR X K .In (rIn K false) (fIn false) := by
  subst hK
  exact ⟨op_in_seq, vs_in⟩
theorem c_notin (hK : X.K = K := by rfl) : CmpR X K .NotIn (rIn K true) (fIn true) := by
  subst hK
  exact ⟨op_notIn_seq, vs_in⟩
section
variable {op op' : CmpOp} {r r' : R2} {f f' : PyData → PyData → (PyData → Prop) → Prop}
theorem pd_cmp (h : CmpR X K op r f) (ha : PD X K a ta da) (hb : PD X K b tb db) (hm : behindInMarks op b = false := by first | exact nomark _ | rfl) : PD X K (.Compare a [op] [b] pos) (tOp r ta tb) (dOp f da db) := ⟨pe_cmpR h.op ha.pe hb.pe hm, sim_op ha.sim hb.sim h.vs⟩
theorem pt_cmp (h : CmpR X K op r f) (ha : PD X K a ta da) (hb : PD X K b tb db) (hm : behindInMarks op b = false := by first | exact nomark _ | rfl) : PTD X K (.Compare a [op] [b] pos) (tTest (tOp r ta tb)) (dB (dOp f da db)) := ⟨pt_cmpR h.op ha.pe hb.pe hm, sim_test (sim_op ha.sim hb.sim h.vs)⟩
theorem pd_chain (h : CmpR X K op r f) (h' : CmpR X K op' r' f') (ha : PD X K a ta da) (hb : PD X K b tb db) (hc : PD X K c tc dc) (hm : lastMarks [op, op'] [b, c] = false := by with_unfolding_all rfl) : PD X K (.Compare a [op, op'] [b, c] pos) (tChain r r' ta tb tc) (dChain f f' da db dc) :=
  ⟨pe_chain h.op h'.op ha.pe hb.pe hc.pe hm, sim_chain ha.sim hb.sim hc.sim h.vs h'.vs⟩
theorem pt_chain' (h : CmpR X K op r f) (h' : CmpR X K op' r' f') (ha : PD X K a ta da) (hb : PD X K b tb db) (hc : PD X K c tc dc) (hm : lastMarks [op, op'] [b, c] = false := by with_unfolding_all rfl) : PTD X K (.Compare a [op, op'] [b, c] pos) (tTest (tChain r r' ta tb tc)) (dB (dChain f f' da db dc)) :=
  ⟨pt_chain h.op h'.op ha.pe hb.pe hc.pe hm, sim_test (sim_chain ha.sim hb.sim hc.sim h.vs h'.vs)⟩
/-- our own list on one side -/
theorem pd_cmpO (i : Nat) {x : Str} {px : Pos} (h : CmpR X K op r f) (hb : PD X K b tb db) (hN : X.N[i]? = some x := by rfl) (hv : Vis X.env.scope x := by first | exact Or.inl rfl | exact Or.inr (Or.inl rfl) | exact Or.inr (Or.inr rfl)) (hm : behindInMarks op b = false := by first | exact nomark _ | rfl)
    (hd : (x == ("__debug__" : Str)) = false := by decide) (hcd : (x == ("__classdict__" : Str)) = false := by decide) : PD X K (.Compare (.Name x px) [op] [b] pos) (tOp r (tVar i) tb) (dOpO f i db) := ⟨pe_cmpR h.op (pe_var hN hv hd hcd) hb.pe hm, sim_opO hb.sim h.vs⟩
theorem pt_cmpO (i : Nat) {x : Str} {px : Pos} (h : CmpR X K op r f) (hb : PD X K b tb db) (hN : X.N[i]? = some x := by rfl) (hv : Vis X.env.scope x := by first | exact Or.inl rfl | exact Or.inr (Or.inl rfl) | exact Or.inr (Or.inr rfl)) (hm : behindInMarks op b = false := by first | exact nomark _ | rfl)
    (hd : (x == ("__debug__" : Str)) = false := by decide) (hcd : (x == ("__classdict__" : Str)) = false := by decide) : PTD X K (.Compare (.Name x px) [op] [b] pos) (tTest (tOp r (tVar i) tb)) (dB (dOpO f i db)) := ⟨pt_cmpR h.op (pe_var hN hv hd hcd) hb.pe hm, sim_test (sim_opO hb.sim h.vs)⟩
theorem pd_cmpO2 (i : Nat) {x : Str} {px : Pos} (h : CmpR X K op r f) (ha : PD X K a ta da) (hN : X.N[i]? = some x := by rfl) (hv : Vis X.env.scope x := by first | exact Or.inl rfl | exact Or.inr (Or.inl rfl) | exact Or.inr (Or.inr rfl)) (hm : behindInMarks op (.Name x px) = false := by first | exact nomark _ | rfl)
    (hd : (x == ("__debug__" : Str)) = false := by decide) (hcd : (x == ("__classdict__" : Str)) = false := by decide) : PD X K (.Compare a [op] [.Name x px] pos) (tOp r ta (tVar i)) (dOpO2 f da i) := ⟨pe_cmpR h.op ha.pe (pe_var hN hv hd hcd) hm, sim_opO2 ha.sim h.vs⟩
theorem pt_cmpO2 (i : Nat) {x : Str} {px : Pos} (h : CmpR X K op r f) (ha : PD X K a ta da) (hN : X.N[i]? = some x := by rfl) (hv : Vis X.env.scope x := by first | exact Or.inl rfl | exact Or.inr (Or.inl rfl) | exact Or.inr (Or.inr rfl)) (hm : behindInMarks op (.Name x px) = false := by first | exact nomark _ | rfl)
    (hd : (x == ("__debug__" : Str)) = false := by decide) (hcd : (x == ("__classdict__" : Str)) = false := by decide) : PTD X K (.Compare a [op] [.Name x px] pos) (tTest (tOp r ta (tVar i))) (dB (dOpO2 f da i)) := ⟨pt_cmpR h.op ha.pe (pe_var hN hv hd hcd) hm, sim_test (sim_opO2 ha.sim h.vs)⟩
end
theorem pt_e (h : PD X K e te de) (he : ∀ whole, isTrue e X.env whole = (do let v ← whole; standAt e.pos; holding [v] (truthy v)) := by intro _; rfl) : PTD X K e (tB te) (dB de) := ⟨pt_val h.pe he, sim_B h.sim⟩
theorem pt_w (h : PWD X K e tt dt) : PTD X K e tt dt := ⟨h.pw.pt, h.sim⟩
theorem pw_a1 (h : PTD X K a tt dt) : PWD X K (.BoolOp .And [a] pos) tt dt := ⟨pw_and1 h.pt, h.sim⟩
theorem pw_o1 (h : PTD X K a tt dt) : PWD X K (.BoolOp .Or [a] pos) tt dt := ⟨pw_or1 h.pt, h.sim⟩
theorem pw_a {rest : List Expr} (h : PTD X K a tt dt) (h' : PWD X K (.BoolOp .And (b :: rest) pos) tt1 dt1) : PWD X K (.BoolOp .And (a :: b :: rest) pos) (tAnd tt tt1) (dAnd dt dt1) := ⟨pw_and h.pt h'.pw, sim_and h.sim h'.sim⟩
theorem pw_o {rest : List Expr} (h : PTD X K a tt dt) (h' : PWD X K (.BoolOp .Or (b :: rest) pos) tt1 dt1) : PWD X K (.BoolOp .Or (a :: b :: rest) pos) (tOr tt tt1) (dOr dt dt1) := ⟨pw_or h.pt h'.pw, sim_or h.sim h'.sim⟩
theorem pt_n (h : PTD X K a tt dt) : PTD X K (.UnaryOp .Not a pos) (tNot tt) (dNot dt) := ⟨L2.pt_not h.pt, sim_not h.sim⟩
theorem pd_1 {op} (h : PD X K a ta da) : PD X K (.BoolOp op [a] pos) ta da := ⟨pe_one h.pe, h.sim⟩
theorem pd_and {rest : List Expr} (h : PD X K a ta da) (h' : PD X K (.BoolOp .And (b :: rest) pos) tb db) : PD X K (.BoolOp .And (a :: b :: rest) pos) (tAndV ta tb) (dAndV da db) := ⟨pe_and h.pe h'.pe, sim_andV h.sim h'.sim⟩
theorem pd_or {rest : List Expr} (h : PD X K a ta da) (h' : PD X K (.BoolOp .Or (b :: rest) pos) tb db) : PD X K (.BoolOp .Or (a :: b :: rest) pos) (tOrV ta tb) (dOrV da db) := ⟨pe_or h.pe h'.pe, sim_orV h.sim h'.sim⟩
theorem pd_not (h : PD X K a ta da) : PD X K (.UnaryOp .Not a pos) (tNotV ta) (dNotV da) := ⟨pe_not h.pe, sim_notV h.sim⟩
theorem pd_if (h : PTD X K c tt dt) (ha : PD X K a ta da) (hb : PD X K b tb db) : PD X K (.IfExp c a b pos) (tIf tt ta tb) (dIf dt da db) := ⟨pe_ifExp h.pt ha.pe hb.pe, sim_if h.sim ha.sim hb.sim⟩
theorem pd_ix (ha : PD X K a ta da) (hb : PD X K b tb db) (hs : PlainIx b := by exact fun _ _ => rfl) (hK : X.K = K := by rfl) : PD X K (.Subscript a b pos) (tOp (rIx K) ta tb) (dOp fIx da db) := by
  subst hK
  exact ⟨pe_ix ix_seq ha.pe hb.pe hs, sim_op ha.sim hb.sim vs_ix⟩
theorem pd_ixO (i : Nat) {x : Str} {px : Pos} (hb : PD X K b tb db) (hN : X.N[i]? = some x := by rfl) (hv : Vis X.env.scope x := by first | exact Or.inl rfl | exact Or.inr (Or.inl rfl) | exact Or.inr (Or.inr rfl)) (hs : PlainIx b := by exact fun _ _ => rfl)
    (hd : (x == ("__debug__" : Str)) = false := by decide) (hcd : (x == ("__classdict__" : Str)) = false := by decide) (hK : X.K = K := by rfl) : PD X K (.Subscript (.Name x px) b pos) (tOp (rIx K) (tVar i) tb) (dIxO i db) := by
  subst hK
  exact ⟨pe_ix ix_seq (pe_var hN hv hd hcd) hb.pe hs, sim_ixO hb.sim⟩
theorem po_n : POD X K none tNoPart dNone := ⟨po_none, sim_none⟩
theorem po_s (h : PD X K e te de) : POD X K (some e) (tPart te) (dSome de) := ⟨po_some h.pe, sim_some h.sim⟩
theorem pd_sl {lo hi : Option Expr} {tl th : TO} {dl dh : DO} {p2 : Pos} (ha : PD X K a ta da) (hl : POD X K lo tl dl) (hh : POD X K hi th dh) (hK : X.K = K := by rfl) : PD X K (.Subscript a (.Slice lo hi none p2) pos) (tSl (rSl2 K) ta tl th) (dSl fSl da dl dh) := by
  subst hK
  exact ⟨pe_slice sl_2 ha.pe hl.po hh.po, sim_sl ha.sim hl.sim hh.sim ss_sl⟩
theorem pa_n : PAD X K [] 0 tNil dNil := ⟨L2.pa_nil, sim_nil⟩
theorem pa_c {t : TA} {d : DN} (ha : PD X K e te de) (hr : PAD X K es n t d) (hs : starEach (e :: es) X.env = (false, eval e X.env) :: starEach es X.env := by rfl) : PAD X K (e :: es) (n + 1) (tCons te t) (dCons de d) := ⟨L2.pa_cons ha.pe hr.pa hs, sim_cons ha.sim hr.sim⟩
theorem pd_tup {t : TA} {d : DN} {x1} (h : PAD X K es n t d) (hn : n ≤ 1000 := by decide) : PD X K (.Tuple es x1 pos) (tTup t) (dTup d) := ⟨pe_tup h.pa, sim_tup h.sim hn⟩
theorem pn_lst {t : TA} {d : DN} (h : PAD X K es n t d) (hn : n ≤ 1000 := by decide) : PN X K (.List es pos) (tLst t) d := ⟨pe_lst h.pa, sim_lst h.sim hn⟩
/-- a new list frozen at once -/
theorem pd_f {dn : DN} (h : PN X K e te dn) : PD X K e te (dFrz dn) := ⟨h.pe, h.sim.frz⟩
theorem pd_B {id : String} {x : Str} {r : List V → Hp → VK → Prop} {f : List PyData → (PyData → Prop) → Prop} {t : TA} {d : DN} (hs : CSim K r f) (hc : CallR X (.builtin id) r) (hm : X.mg x = none) (hv : bootBuiltins x = some (.builtin id)) (ha : PAD X K (e :: es) n t d) (hg : Gl X x := by rfl) (hn : x ≠ "__name__" := by decide) (hdb : (x == ("__debug__" : Str)) = false := by decide)
    (he : starEach (e :: es) X.env = (false, eval e X.env) :: starEach es X.env := by rfl) (hpl : (backTo pos (starEach es X.env)).any (·.1) = false := by rfl) : PD X K (.Call (.Name x p) (e :: es) [] pos) (tCB r t) (dCB f d) := ⟨pe_callB hc hg hm hv ha.pa hn hdb he hpl, sim_cb ha.sim hs⟩
theorem pn_B {id : String} {x : Str} {r : List V → Hp → VK → Prop} {f : List PyData → (List PyData → Prop) → Prop} {t : TA} {d : DN} (hs : CSimN K r f) (hc : CallR X (.builtin id) r) (hm : X.mg x = none) (hv : bootBuiltins x = some (.builtin id)) (ha : PAD X K (e :: es) n t d) (hg : Gl X x := by rfl) (hn : x ≠ "__name__" := by decide) (hdb : (x == ("__debug__" : Str)) = false := by decide)
    (he : starEach (e :: es) X.env = (false, eval e X.env) :: starEach es X.env := by rfl) (hpl : (backTo pos (starEach es X.env)).any (·.1) = false := by rfl) : PN X K (.Call (.Name x p) (e :: es) [] pos) (tCB r t) (dCBN f d) := ⟨pe_callB hc hg hm hv ha.pa hn hdb he hpl, sim_cbN ha.sim hs⟩
theorem pd_T {T : String} {x : Str} {r : List V → Hp → VK → Prop} {f : List PyData → (PyData → Prop) → Prop} {t : TA} {d : DN} (hs : CSim K r f) (hc : CallR X (.type T) r) (hm : X.mg x = none) (hv : bootBuiltins x = some (.type T)) (ha : PAD X K (e :: es) n t d) (hg : Gl X x := by rfl) (hn : x ≠ "__name__" := by decide) (hdb : (x == ("__debug__" : Str)) = false := by decide)
    (he : starEach (e :: es) X.env = (false, eval e X.env) :: starEach es X.env := by rfl) (hpl : (backTo pos (starEach es X.env)).any (·.1) = false := by rfl) : PD X K (.Call (.Name x p) (e :: es) [] pos) (tCB r t) (dCB f d) := ⟨pe_callTy hc hg hm hv ha.pa hn hdb he hpl, sim_cb ha.sim hs⟩
theorem pn_T {T : String} {x : Str} {r : List V → Hp → VK → Prop} {f : List PyData → (List PyData → Prop) → Prop} {t : TA} {d : DN} (hs : CSimN K r f) (hc : CallR X (.type T) r) (hm : X.mg x = none) (hv : bootBuiltins x = some (.type T)) (ha : PAD X K (e :: es) n t d) (hg : Gl X x := by rfl) (hn : x ≠ "__name__" := by decide) (hdb : (x == ("__debug__" : Str)) = false := by decide)
    (he : starEach (e :: es) X.env = (false, eval e X.env) :: starEach es X.env := by rfl) (hpl : (backTo pos (starEach es X.env)).any (·.1) = false := by rfl) : PN X K (.Call (.Name x p) (e :: es) [] pos) (tCB r t) (dCBN f d) := ⟨pe_callTy hc hg hm hv ha.pa hn hdb he hpl, sim_cbN ha.sim hs⟩
/-- f(xs), xs our own -/
theorem pd_BO (i : Nat) {id : String} {x y : Str} {px : Pos} {r : List V → Hp → VK → Prop} {f : List PyData → (PyData → Prop) → Prop} (hs : CSim K r f) (hc : CallR X (.builtin id) r) (hm : X.mg x = none) (hv : bootBuiltins x = some (.builtin id)) (hN : X.N[i]? = some y := by rfl) (hvy : Vis X.env.scope y := by first | exact Or.inl rfl | exact Or.inr (Or.inl rfl) | exact Or.inr (Or.inr rfl)) (hg : Gl X x := by rfl) (hn : x ≠ "__name__" := by decide) (hdb : (x == ("__debug__" : Str)) = false := by decide)
    (hd : (y == ("__debug__" : Str)) = false := by decide) (hcd : (y == ("__classdict__" : Str)) = false := by decide) (he : starEach (.Name y px :: []) X.env = (false, eval (.Name y px) X.env) :: starEach [] X.env := by rfl) (hpl : (backTo pos (starEach [] X.env)).any (·.1) = false := by rfl) :
    PD X K (.Call (.Name x p) [.Name y px] [] pos) (tCB r (tCons (tVar i) tNil)) (dCBO f i) := ⟨pe_callB hc hg hm hv (L2.pa_cons (pe_var hN hvy hd hcd) L2.pa_nil he) hn hdb he hpl, sim_cbO hs⟩
theorem pd_tupO (i : Nat) {y : Str} {px : Pos} (hm : X.mg "tuple" = none) (hN : X.N[i]? = some y := by rfl) (hvy : Vis X.env.scope y := by first | exact Or.inl rfl | exact Or.inr (Or.inl rfl) | exact Or.inr (Or.inr rfl)) (hg : Gl X "tuple" := by rfl)
    (hd : (y == ("__debug__" : Str)) = false := by decide) (hcd : (y == ("__classdict__" : Str)) = false := by decide) (he : starEach (.Name y px :: []) X.env = (false, eval (.Name y px) X.env) :: starEach [] X.env := by rfl) (hpl : (backTo pos (starEach [] X.env)).any (·.1) = false := by rfl) (hK : X.K = K := by rfl) :
    PD X K (.Call (.Name "tuple" p) [.Name y px] [] pos) (tCB (fun xs H Q => ∃ p ys, xs = [.ref p] ∧ ((SqL K H p ys ∧ ∀ l, H l = none → Q (.ref l) (upd H l (.tup ys))) ∨ (SqT K H p ys ∧ Q (.ref p) H))) (tCons (tVar i) tNil)) (dTupO i) := by
  subst hK
  exact ⟨pe_callTy call_tuple_of hg hm boot_tuple (L2.pa_cons (pe_var hN hvy hd hcd) L2.pa_nil he) (he := he) (hpl := hpl), sim_tupO⟩
/-- an own def of data -/
theorem pd_call {x : Str} {k j : Nat} {φ : List PyData → (PyData → Prop) → Prop} {t : TA} {d : DN} (c : Fn X.prog X.w X.K X.mg X.base k x (spD K φ)) (hr : Room j X.A) (ha : PAD X K (e :: es) n t d) (hk : k ≤ j := by decide) (hg : Gl X x := by rfl) (hdb : (x == ("__debug__" : Str)) = false := by decide)
    (he : starEach (e :: es) X.env = (false, eval e X.env) :: starEach es X.env := by rfl) (hpl : (backTo pos (starEach es X.env)).any (·.1) = false := by rfl) (hK : X.K = K := by rfl) : PD X K (.Call (.Name x p) (e :: es) [] pos) (tCall (spD K φ) [] L2.E0 t) (dCall φ d) := by
  subst hK
  obtain ⟨f, fd, ps, F, hm, kp, b⟩ := c.ex
  exact ⟨pe_call F (hr.mono hk) hg hm kp b .nil L2.pass0 ha.pa hdb he hpl, sim_call ha.sim⟩
end
end DL

namespace DL
open PySem PySem.Spec PyProof.Rows L2
open Evl (Ex)
/-! ### the law's state -/
def del2 (H : Hp) (a g : Addr) : Hp := fun b => if b = a ∨ b = g then none else H b
theorem del2_at {H : Hp} {a g b : Addr} {o : HO} (h : del2 H a g b = some o) : H b = some o ∧ b ≠ a ∧ b ≠ g := by
  unfold del2 at h
  split at h
  · cases h
  · rename_i n
    exact ⟨h, fun e => n (.inl e), fun e => n (.inr e)⟩
theorem del2_ne {H : Hp} {a g b : Addr} (h1 : b ≠ a) (h2 : b ≠ g) : del2 H a g b = H b := by
  unfold del2
  rw [if_neg (fun h => h.elim h1 h2)]
theorem del2_a {H : Hp} {a g : Addr} : del2 H a g a = none := by
  unfold del2
  rw [if_pos (.inl rfl)]
theorem del2_g {H : Hp} {a g : Addr} : del2 H a g g = none := by
  unfold del2
  rw [if_pos (.inr rfl)]
theorem del2_ex {H : Hp} {a g : Addr} : Ex (del2 H a g) H := fun b o h => (del2_at h).1
/-- a def whose first argument is the state -/
def spS (K : PySem.W.Frag) (φ : List PyData → (PyData → Prop) → Prop) (c : Nat) : Sp := fun vs H Q _ => ∃ (bu : Nat) (a g : Addr) (G : Hp) (vs' : List V) (ds : List PyData) (P : PyData → Prop), vs = .ref a :: vs' ∧ Ex G H ∧ StOk K (bu + c) G H a g ∧ a ≠ g ∧ G a = none ∧ G g = none ∧ Dvs K G vs' ds ∧ φ ds P ∧
  ∀ d v H' G' g', P d → Le (del2 H a g) G G' → Ex (del2 H a g) H' → Ex G' H' → StOk K bu G' H' a g' → a ≠ g' → G' a = none → G' g' = none → (del2 H a g) g' = none → Dv K G' v d → Q v H'
section
variable {X : Cx} {K : PySem.W.Frag}
theorem Rel.st {bu : Nat} {σ : L2.St} {H G R : Hp} {E : Env} {i : Nat} {a : Addr} (r : Rel K bu σ H G R E) (h : E[i]? = some (.s a)) : ∃ g, σ[i]? = some (some (.ref a)) ∧ StOk K bu G H a g ∧ a ≠ g ∧ G a = none ∧ G g = none ∧ R a = none ∧ R g = none := by
  obtain ⟨fps, c, n, d⟩ := r.fps
  obtain ⟨v, fp, h1, h2, g, rfl, e, ok⟩ := c.get h
  subst e
  have da := d a (mem_flat h2 (by simp))
  have dg := d g (mem_flat h2 (by simp))
  refine ⟨g, h1, ok, fun e => ?_, da.1, dg.1, da.2, dg.2⟩
  obtain ⟨c, gs, cs, rr, t, e1, e2, _⟩ := ok
  rw [e, e2] at e1
  cases e1
/-- the state has changed, all else stands -/
theorem Rel.putS {b b1 b' : Nat} {σ : L2.St} {H G R H' G' : Hp} {E : Env} {i : Nat} {a g g' : Addr} (r : Rel K b σ H G R E) (h : E[i]? = some (.s a)) (hst : StOk K b1 G H a g)
    (l : Le (del2 H a g) G G') (ex : Ex (del2 H a g) H') (eg : Ex G' H') (ok : StOk K b' G' H' a g') (ne : a ≠ g') (ha : G' a = none) (hg : G' g' = none) (hn : (del2 H a g) g' = none) (hb : b' ≤ b := by omega) : Rel K b' σ H' G' R E := by
  obtain ⟨fps, c, n, d⟩ := (r.dn hb).fps
  obtain ⟨v, fp, hσ, h2, g0, rfl, e, ok0⟩ := c.get h
  subst e
  -- g0 is g: both are what the dict at a tells
  obtain ⟨c1, gs1, cs1, r1, t1, e1, e1', _⟩ := hst
  obtain ⟨c2, gs2, cs2, r2, t2, e2, e2', _⟩ := id ok0
  rw [e1] at e2
  have eg0 : g = g0 := by
    have q := Option.some.inj e2
    unfold stD at q
    injection q with q
    injection q with q _
    injection q with _ q
    injection q
  subst eg0
  have da := d a (mem_flat h2 (by simp))
  have dg := d g (mem_flat h2 (by simp))
  have na := not_mem_set n h2 (show a ∈ [a, g] by simp)
  have ng := not_mem_set n h2 (show g ∈ [a, g] by simp)
  have there : ∀ b ∈ (fps.set i []).flatten, (del2 H a g) b = H b ∧ H b ≠ none := fun b hb => by
    obtain ⟨o, e⟩ := c.there b ((flat_set_sub fps i).subset hb)
    exact ⟨del2_ne (fun z => na (by rw [← z]; exact hb)) (fun z => ng (by rw [← z]; exact hb)), by rw [e]; intro z; cases z⟩
  have rd : Ex R (del2 H a g) := fun b o e => by
    rw [del2_ne (fun z => by rw [z, da.2] at e; cases e) (fun z => by rw [z, dg.2] at e; cases e)]
    exact r.rh b o e
  have c' : Cells K b' G' H' σ (E.set i .no) (fps.set i []) := by
    have z := c.set (fp := []) (v := some (.ref a)) (c := .no) rfl i
    rw [set_self hσ] at z
    refine z.mono l.1 fun b hb => ?_
    obtain ⟨q1, q2⟩ := there b hb
    cases q : H b with
    | none => exact absurd q q2
    | some o => exact ex b o (by rw [q1]; exact q)
  have c2 := c'.set (fp := [a, g']) (v := some (.ref a)) (c := .s a) ⟨g', rfl, rfl, ok⟩ i
  rw [set_self hσ, List.set_set, List.set_set, set_self h] at c2
  refine ⟨eg, rd.trans ex, fps.set i [a, g'], c2, nodup_set n (by simp [ne]) fun b hb hb2 => ?_, fun b hb => ?_⟩
  · rcases List.mem_cons.mp hb with rfl | hb
    · exact na hb2
    · rw [List.mem_singleton.mp hb] at hb2
      obtain ⟨q1, q2⟩ := there g' hb2
      rw [hn] at q1
      exact q2 q1.symm
  · rcases flat_set_mem hb with hb | hb
    · rcases List.mem_cons.mp hb with rfl | hb
      · exact ⟨ha, da.2⟩
      · rw [List.mem_singleton.mp hb]
        exact ⟨hg, ex_none rd hn⟩
    · obtain ⟨q1, q2⟩ := there b hb
      have q3 := d b ((flat_set_sub fps i).subset hb)
      exact ⟨(l.2 b (by rw [q1]; exact q2)).trans q3.1, q3.2⟩
/-- f(state, ..), which mixes at most c times -/
def dCallS (i : Nat) (φ : List PyData → (PyData → Prop) → Prop) (c : Nat) (da : DN) : DE := ⟨fun E P => match E[i]? with
  | some (.s _) => da E fun ds => φ ds P
  | _ => False, da.cost + c⟩
theorem sim_callS {i n c : Nat} {φ : List PyData → (PyData → Prop) → Prop} {ta : TA} {da : DN} (ha : SimA K n ta da) : Sim K (tCall (spS K φ c) [] L2.E0 (tCons (tVar i) ta)) (dCallS i φ c da) := by
  intro bu σ H G R E Q P r hd k
  simp only [dCallS] at hd
  split at hd
  · rename_i a e
    obtain ⟨g, h1, _⟩ := r.st e
    refine ⟨_, h1, ha (bu + c) σ H G R E _ _ r.two hd fun vs ds H1 G1 hl l1 r1 hx hd1 => ?_⟩
    obtain ⟨g, h1', ok, ne, ga, gg, ra, rg⟩ := r1.st e
    show spS K φ c ((.ref a :: vs) ++ []) H1 Q L2.E0
    rw [List.append_nil]
    refine ⟨bu, a, g, G1, vs, ds, P, rfl, r1.gh, ok, ne, ga, gg, hx, hd1, fun d v H2 G2 g' hp l ex eg ok2 ne2 ha2 hg2 hn2 hv => ?_⟩
    have rd : Ex R (del2 H1 a g) := fun b o e' => by
      rw [del2_ne (fun z => by rw [z, ra] at e'; cases e') (fun z => by rw [z, rg] at e'; cases e')]
      exact r1.rh b o e'
    exact k v d H2 G2 (l1.trans (l.less rd)) (r1.putS e ok l ex eg ok2 ne2 ha2 hg2 hn2) hv hp
  · exact hd.elim
def startS (a : Addr) (n : Nat) (ds : List PyData) : Env := .s a :: startE (n - 1) ds
theorem rel_startS {bu : Nat} {G H : Hp} {N : List Str} {n : Str} {vs : List V} {ds : List PyData} {a g : Addr} (e : Ex G H) (h : Dvs K G vs ds) (ok : StOk K bu G H a g) (ne : a ≠ g) (ga : G a = none) (gg : G g = none) : Rel K bu (L2.start (n :: N) (.ref a :: vs)) H G (del2 H a g) (startS a (n :: N).length ds) := by
  obtain ⟨_, _, fps, c, nd, hf⟩ := rel_start (N := N) e (Ex.refl H) h
  have hfl : fps.flatten = [] := by
    cases q : fps.flatten with
    | nil => rfl
    | cons b bs =>
      have hb : b ∈ fps.flatten := by rw [q]; exact List.mem_cons_self
      obtain ⟨o, eo⟩ := c.there b hb
      rw [(hf b hb).2] at eo
      cases eo
  have es : L2.start (n :: N) (V.ref a :: vs) = some (.ref a) :: L2.start N vs := by
    unfold L2.start
    show some (V.ref a) :: (vs.map some ++ List.replicate (N.length + 1 - (vs.length + 1)) none) = _
    rw [Nat.add_sub_add_right]
  have ee : startS a (n :: N).length ds = .s a :: startE N.length ds := by
    unfold startS
    rfl
  rw [es, ee]
  refine ⟨e, del2_ex, [a, g] :: fps, .cons (c := .s a) ⟨g, rfl, rfl, ok⟩ c, ?_, fun b hb => ?_⟩
  · rw [List.flatten_cons, hfl, List.append_nil]
    simp [ne]
  · rw [List.flatten_cons, hfl, List.append_nil] at hb
    rcases List.mem_cons.mp hb with rfl | hb
    · exact ⟨ga, del2_a⟩
    · rw [List.mem_singleton.mp hb]
      exact ⟨gg, del2_g⟩
end
section
variable {P : Program} {w : World} {K : PySem.W.Frag} {mg : Str → Option Value} {base : Heap} {x qual : Str} {params : Arguments} {body : List Stmt} {scope : Scope} {f : Addr} {fd : FuncData} {N ps : List Str} {n m : Str} {k : Nat}
/-- a def with the state ahead: it keeps it -/
theorem fn_state {c : Nat} {φ : List PyData → (PyData → Prop) → Prop} (F : FunD K x qual params body scope [] [] f fd) (S : FnScope (n :: N) (m :: ps) scope) (hφ : ∀ ds Q, φ ds Q → ds.length = ps.length)
    (hbody : ∀ (cdv : Value) (A : Around) (outer : List PySem.Env) (s : Shared) (H : Hp) (E : XK), Room k (A.deeper (envOfC qual scope s.heap.objs.size f cdv)) →
      ∃ t d, PSsD (cxOf L2.CX0 P w K mg base (n :: N) qual scope f cdv A outer s H E).nox K body t d ∧ d.cost ≤ c ∧ ∀ a ds Q, φ ds Q → d { nx := fun E => E[0]? = some (.s a) ∧ Q .none, rt := fun x E => E[0]? = some (.s a) ∧ Q x } (startS a (n :: N).length ds)) :
    FnOk P w K mg base L2.CX0 (k + 1) f fd (m :: ps) (spS K φ c) := by
  refine F.ok S (fun vs H Q E h => ?_) (fun cdv A outer s H vs Q E hr h => ?_)
  · obtain ⟨_, a, g, G, vs', ds, _, rfl, _, _, _, _, _, hv, hp, _⟩ := h
    rw [List.length_cons, List.length_cons, hv.length, hφ ds _ hp]
  · obtain ⟨bu, a, g, G, vs', ds, Pq, rfl, eg, ok, ne, ga, gg, hv, hp, fin⟩ := h
    obtain ⟨t, d, hps, hc, hread⟩ := hbody cdv A outer s H E hr
    refine ⟨t, PSs.nox hps.ps, ?_⟩
    refine hps.sim bu _ _ _ H G (del2 H a g) (startS a (n :: N).length ds) ((rel_startS eg hv ok ne ga gg).dn (by omega)) (hread a ds _ hp) ⟨fun σ' H' G' E' l r hn => ?_, fun v d' σ' H' G' E' l r hv' hn => ?_, fun _ _ _ _ _ _ h => h.elim, fun _ _ _ _ _ _ h => h.elim, fun _ _ _ _ _ _ _ _ _ _ h => h.elim⟩
    · obtain ⟨g', _, ok', ne', ga', gg', _, rg'⟩ := r.st hn.1
      exact fin _ _ _ _ g' hn.2 l r.rh r.gh ok' ne' ga' gg' rg' .non
    · obtain ⟨g', _, ok', ne', ga', gg', _, rg'⟩ := r.st hn.1
      exact fin _ _ _ _ g' hn.2 l r.rh r.gh ok' ne' ga' gg' rg' hv'
end
/-! ### the terms: statements, loops, comprehensions -/
section
variable {X : Cx} {K : PySem.W.Frag} {e a b c tg iter elt : Expr} {es ifs : List Expr} {st : Stmt} {sts body : List Stmt} {pos p : Pos} {ta tb tc te : TE} {da db dc de : DE} {tt : TT} {dt : DT} {n : Nat} {t u : TS} {d d' : DS} {dn dn' : DN} {g g1 : TG} {dg dg1 : DG} {js js1 : List Nat} {wi wi1 : TI} {di di1 : DN}
theorem q_nil : PSsD X K [] tNext dNext := ⟨pss_nil, sims_next⟩
theorem q_cons (h : PSD X K st t d) (h' : PSsD X K sts u d') : PSsD X K (st :: sts) (tSeq t u) (dSeq d d') := ⟨pss_cons h.ps h'.ps, sims_seq h.sim h'.sim⟩
theorem q_cut (h : PSD X K st t d) (h' : PSsD X K sts u d') : PSsD X K (st :: sts) (tSeq t u) (dCut d d') := ⟨pss_cons h.ps h'.ps, sims_cut h.sim h'.sim⟩
theorem q_one (h : PSD X K st t d) : PSsD X K [st] t d := ⟨pss_one h.ps, h.sim⟩
theorem q_never : PSsD X K sts tNever dNever := ⟨pss_never, sims_never⟩
theorem s_never : PSD X K st tNever dNever := ⟨ps_never, sims_never⟩
theorem s_pass : PSD X K (.Pass pos) tNext dNext := ⟨ps_pass, sims_next⟩
theorem s_break : PSD X K (.Break pos) tBreak dBreak := ⟨ps_break, sims_break⟩
theorem s_cont : PSD X K (.Continue pos) tCont dCont := ⟨ps_continue, sims_cont⟩
/-- our own list is frozen ahead of a statement -/
theorem s_frz (i : Nat) (h : PSD X K st t d) : PSD X K st t (dFrzS i d) := ⟨h.ps, sims_frz h.sim⟩
theorem q_frz (i : Nat) (h : PSsD X K sts t d) : PSsD X K sts t (dFrzS i d) := ⟨h.ps, sims_frz h.sim⟩
theorem s_set (i : Nat) {x : Str} {pos' : Pos} (nd : X.N.Nodup) (h : PD X K e te de) (hi : X.N[i]? = some x := by rfl) (hx : Loc X.env.scope x := by first | exact Or.inl rfl | exact Or.inr rfl) (hs : swapsWith e (some (.Name x pos')) pos.line X.env = pure false := by rfl)
    (hf : X.fn x = true ∨ X.env.scope.names.lookup x = some .local := by first | exact .inl rfl | exact .inr rfl) : PSD X K (.Assign [.Name x pos'] e pos) (tAsg te (gName i)) (dSet i de) := ⟨ps_set nd hi hx h.pe hs hf, sims_set h.sim⟩
theorem s_setN (i : Nat) {x : Str} {pos' : Pos} (nd : X.N.Nodup) (h : PN X K e te dn) (hi : X.N[i]? = some x := by rfl) (hx : Loc X.env.scope x := by first | exact Or.inl rfl | exact Or.inr rfl) (hs : swapsWith e (some (.Name x pos')) pos.line X.env = pure false := by rfl)
    (hf : X.fn x = true ∨ X.env.scope.names.lookup x = some .local := by first | exact .inl rfl | exact .inr rfl) : PSD X K (.Assign [.Name x pos'] e pos) (tAsg te (gName i)) (dSetN i dn) := ⟨ps_set nd hi hx h.pe hs hf, sims_setN h.sim⟩
section
variable {i j : Nat} {x y : Str} {px py pt : Pos} {kt k2 pt2}
theorem s_par (i j : Nat) {x y : Str} {px py pt : Pos} {kt k2 pt2} (nd : X.N.Nodup) (h : PD X K a ta da) (h' : PD X K b tb db) (hi : X.N[i]? = some x := by rfl) (hj : X.N[j]? = some y := by rfl) (hij : i ≠ j := by decide) (hx : X.env.scope.names.lookup x = some .local := by rfl) (hy : X.env.scope.names.lookup y = some .local := by rfl)
    (hw : swappedStores [.Tuple [.Name x px, .Name y py] kt pt] (.Tuple [a, b] k2 pt2) X.env = pure (some [x, y]) := by rfl) (hc : X.calm = true := by rfl) (hs : swapsWithSole [.Tuple [.Name x px, .Name y py] kt pt] (.Tuple [a, b] k2 pt2) pos.line X.env = pure false := by rfl)
    (h1 : starEach (a :: [b]) X.env = (false, eval a X.env) :: starEach [b] X.env := by rfl) (h2 : starEach (b :: []) X.env = (false, eval b X.env) :: starEach [] X.env := by rfl) :
    PSD X K (.Assign [.Tuple [.Name x px, .Name y py] kt pt] (.Tuple [a, b] k2 pt2) pos) (tPar i j (tCons ta (tCons tb tNil))) (dPar i j da db) := ⟨ps_par hc nd hi hj hij hx hy (L2.pa_cons h.pe (L2.pa_cons h'.pe L2.pa_nil h2) h1) hw hs, sims_par h.sim h'.sim⟩
theorem s_parN (i j : Nat) {x y : Str} {px py pt : Pos} {kt k2 pt2} (nd : X.N.Nodup) (h : PN X K a ta dn) (h' : PD X K b tb db) (hi : X.N[i]? = some x := by rfl) (hj : X.N[j]? = some y := by rfl) (hij : i ≠ j := by decide) (hx : X.env.scope.names.lookup x = some .local := by rfl) (hy : X.env.scope.names.lookup y = some .local := by rfl)
    (hw : swappedStores [.Tuple [.Name x px, .Name y py] kt pt] (.Tuple [a, b] k2 pt2) X.env = pure (some [x, y]) := by rfl) (hc : X.calm = true := by rfl) (hs : swapsWithSole [.Tuple [.Name x px, .Name y py] kt pt] (.Tuple [a, b] k2 pt2) pos.line X.env = pure false := by rfl)
    (h1 : starEach (a :: [b]) X.env = (false, eval a X.env) :: starEach [b] X.env := by rfl) (h2 : starEach (b :: []) X.env = (false, eval b X.env) :: starEach [] X.env := by rfl) :
    PSD X K (.Assign [.Tuple [.Name x px, .Name y py] kt pt] (.Tuple [a, b] k2 pt2) pos) (tPar i j (tCons ta (tCons tb tNil))) (dParN i j dn db) := ⟨ps_par hc nd hi hj hij hx hy (L2.pa_cons h.pe (L2.pa_cons h'.pe L2.pa_nil h2) h1) hw hs, sims_parN h.sim h'.sim⟩
theorem s_parM (i j : Nat) {x y : Str} {px py pt : Pos} {kt k2 pt2} (nd : X.N.Nodup) (h : PD X K a ta da) (h' : PN X K b tb dn) (hi : X.N[i]? = some x := by rfl) (hj : X.N[j]? = some y := by rfl) (hij : i ≠ j := by decide) (hx : X.env.scope.names.lookup x = some .local := by rfl) (hy : X.env.scope.names.lookup y = some .local := by rfl)
    (hw : swappedStores [.Tuple [.Name x px, .Name y py] kt pt] (.Tuple [a, b] k2 pt2) X.env = pure (some [x, y]) := by rfl) (hc : X.calm = true := by rfl) (hs : swapsWithSole [.Tuple [.Name x px, .Name y py] kt pt] (.Tuple [a, b] k2 pt2) pos.line X.env = pure false := by rfl)
    (h1 : starEach (a :: [b]) X.env = (false, eval a X.env) :: starEach [b] X.env := by rfl) (h2 : starEach (b :: []) X.env = (false, eval b X.env) :: starEach [] X.env := by rfl) :
    PSD X K (.Assign [.Tuple [.Name x px, .Name y py] kt pt] (.Tuple [a, b] k2 pt2) pos) (tPar i j (tCons ta (tCons tb tNil))) (dParM i j da dn) := ⟨ps_par hc nd hi hj hij hx hy (L2.pa_cons h.pe (L2.pa_cons h'.pe L2.pa_nil h2) h1) hw hs, sims_parM h.sim h'.sim⟩
theorem s_parNN (i j : Nat) {x y : Str} {px py pt : Pos} {kt k2 pt2} (nd : X.N.Nodup) (h : PN X K a ta dn) (h' : PN X K b tb dn') (hi : X.N[i]? = some x := by rfl) (hj : X.N[j]? = some y := by rfl) (hij : i ≠ j := by decide) (hx : X.env.scope.names.lookup x = some .local := by rfl) (hy : X.env.scope.names.lookup y = some .local := by rfl)
    (hw : swappedStores [.Tuple [.Name x px, .Name y py] kt pt] (.Tuple [a, b] k2 pt2) X.env = pure (some [x, y]) := by rfl) (hc : X.calm = true := by rfl) (hs : swapsWithSole [.Tuple [.Name x px, .Name y py] kt pt] (.Tuple [a, b] k2 pt2) pos.line X.env = pure false := by rfl)
    (h1 : starEach (a :: [b]) X.env = (false, eval a X.env) :: starEach [b] X.env := by rfl) (h2 : starEach (b :: []) X.env = (false, eval b X.env) :: starEach [] X.env := by rfl) :
    PSD X K (.Assign [.Tuple [.Name x px, .Name y py] kt pt] (.Tuple [a, b] k2 pt2) pos) (tPar i j (tCons ta (tCons tb tNil))) (dParNN i j dn dn') := ⟨ps_par hc nd hi hj hij hx hy (L2.pa_cons h.pe (L2.pa_cons h'.pe L2.pa_nil h2) h1) hw hs, sims_parNN h.sim h'.sim⟩
end
theorem g_name (i : Nat) {x : Str} (nd : X.N.Nodup) (hi : X.N[i]? = some x := by rfl) (hx : Loc X.env.scope x := by first | exact Or.inl rfl | exact Or.inr rfl) (hf : X.fn x = true ∨ X.env.scope.names.lookup x = some .local := by first | exact .inl rfl | exact .inr rfl) : PGD X K (.Name x pos) (gName i) (dgName i) [i] := ⟨pg_name nd hi hx hf, sg_name⟩
theorem gs_nil : PGsD X K [] gNil dgNil [] := ⟨pgs_nil, sgs_nil⟩
theorem gs_cons {gs : TGs} {dgs : DGs} (h : PGD X K e g dg js) (h' : PGsD X K es gs dgs js1) (hs : (assignEach (e :: es) X.env).map (·.2) = assign e X.env :: (assignEach es X.env).map (·.2) := by rfl) : PGsD X K (e :: es) (gCons g gs) (dgCons dg dgs) (js ++ js1) := ⟨pgs_cons h.pg h'.pgs hs, sgs_cons h.sim h'.sim⟩
theorem g_tup {gs : TGs} {dgs : DGs} {k} (n : Nat) (h : PGsD X K es gs dgs js) (hc : X.calm = true := by rfl) (hn : (assignEach es X.env).length = n := by rfl) (hst : (assignEach es X.env).findIdx? (·.1) = none := by rfl) (hK : X.K = K := by rfl) : PGD X K (.Tuple es k pos) (gTup K n gs) (dgTup n dgs) js := by
  subst hK
  exact ⟨pg_tup hc h.pgs hn hst, sg_tup h.sim⟩
theorem s_asg (h : PD X K e te de) (hg : PGD X K tg g dg js) (hs : swapsWithSole [tg] e pos.line X.env = pure false := by rfl) (hw : swappedStores [tg] e X.env = pure none := by rfl) (h1 : (assignEach [tg] X.env).map (·.2) = [assign tg X.env] := by rfl) : PSD X K (.Assign [tg] e pos) (tAsg te g) (dAsg de dg) := ⟨ps_asg h.pe hg.pg hs hw h1, sims_asg h.sim hg.sim⟩
theorem s_aug (i : Nat) {x : Str} {op : Operator} {ti : TIp} {f : PyData → PyData → (PyData → Prop) → Prop} {pos' : Pos} (nd : X.N.Nodup) (ho : PIp X op ti) (hv : VSim K ti f) (h : PD X K e te de) (hi : X.N[i]? = some x := by rfl) (hx : Loc X.env.scope x := by first | exact Or.inl rfl | exact Or.inr rfl) (hf : X.fn x = true ∨ X.env.scope.names.lookup x = some .local := by first | exact .inl rfl | exact .inr rfl) : PSD X K (.AugAssign (.Name x pos') op e pos) (tAug i te ti) (dAug i f de) := ⟨ps_aug nd hi hx h.pe ho hf, sims_aug h.sim hv⟩
theorem s_drop (h : PD X K e te de) (hs : swapsWith e none pos.line X.env = pure false := by rfl) : PSD X K (.Expr e pos) (tDrop te) (dDrop de) := ⟨ps_expr h.pe hs, sims_drop h.sim⟩
theorem s_ret (h : PD X K e te de) : PSD X K (.Return (some e) pos) (tRet te) (dRet de) := ⟨ps_ret h.pe, sims_ret h.sim⟩
theorem s_retN : PSD X K (.Return none pos) tRetN dRetN := ⟨ps_retN, sims_retN⟩
theorem s_if {c : Expr} {as bs : List Stmt} (h : PTD X K c tt dt) (h1 : PSsD X K as t d) (h2 : PSsD X K bs u d') : PSD X K (.If c as bs pos) (tIfS tt t u) (dIfS dt d d') := ⟨ps_if h.pt h1.ps h2.ps, sims_if h.sim h1.sim h2.sim⟩
theorem s_while {c : Expr} (h : PTD X K c tt dt) (hb : PSsD X K body t d) (hp : PassesOwn (model X.prog X.w) X.A X.env X.xe := by exact PassesOwn.never) (c0 : dt.cost + d.cost = 0 := by rfl) : PSD X K (.While c body [] pos) (tWhile tt t) (dWhile dt d) := ⟨ps_while hp h.pt hb.ps, sims_while h.sim hb.sim c0⟩
theorem s_whileS {c : Expr} (h : PTD X K c tt dt) (hb : PSsD X K body t d) (hp : PassesOwn (model X.prog X.w) X.A X.env X.xe := by exact PassesOwn.never) : PSD X K (.While c body [] pos) (tWhile tt t) (dWhileS dt d) := ⟨ps_while hp h.pt hb.ps, sims_whileS h.sim hb.sim⟩
theorem s_for (hi : PID X K tg iter wi di) (hg : PGD X K tg g dg js) (hb : PSsD X K body t d) (hp : PassesOwn (model X.prog X.w) X.A X.env X.xe := by exact PassesOwn.never) (hc : X.calm = true := by rfl) (hs : ∀ x, foldedSetIterable iter X.env x = pure x := by intro _; rfl) (c0 : d.cost = 0 := by rfl) : PSD X K (.For tg iter body [] pos) (tFor wi g t) (dFor di dg d) := ⟨ps_for hp hc hi.pi hg.pg hb.ps hs, sims_for hi.sim hg.sim hb.sim c0⟩
theorem s_forS (hi : PID X K tg iter wi di) (hg : PGD X K tg g dg js) (hb : PSsD X K body t d) (hp : PassesOwn (model X.prog X.w) X.A X.env X.xe := by exact PassesOwn.never) (hc : X.calm = true := by rfl) (hs : ∀ x, foldedSetIterable iter X.env x = pure x := by intro _; rfl) : PSD X K (.For tg iter body [] pos) (tFor wi g t) (dForS di dg d) := ⟨ps_for hp hc hi.pi hg.pg hb.ps hs, sims_forS hi.sim hg.sim hb.sim⟩
/-- xs.append(e), xs our own -/
theorem s_app (i : Nat) {x : Str} {px apos cpos : Pos} (h : PD X K e te de) (hN : X.N[i]? = some x := by rfl) (hv : Vis X.env.scope x := by first | exact Or.inl rfl | exact Or.inr (Or.inl rfl) | exact Or.inr (Or.inr rfl)) (hd : (x == ("__debug__" : Str)) = false := by decide)
    (hcd : (x == ("__classdict__" : Str)) = false := by decide) (he : starEach (e :: []) X.env = (false, eval e X.env) :: starEach [] X.env := by rfl) (hfew : ((((backTo cpos (starEach [e] X.env)).all fun x => !x.1) && (backToKw cpos (keywordEach [] X.env)).all fun x => x.1.isSome) && decide ([e].length + ([] : List Keyword).length + (if ([] : List Keyword).isEmpty then 0 else 1) < 30)) = true := by rfl) (hplain : (backTo cpos (starEach [] X.env)).any (·.1) = false := by rfl) (hbase : attributeBase (.Name x px) "append" X.env (eval (.Name x px) X.env) = eval (.Name x px) X.env := by rfl) (hline : (apos.endLine == cpos.line) = true := by rfl)
    (hs : swapsWith (.Call (.Attribute (.Name x px) "append" apos) [e] [] cpos) none pos.line X.env = pure false := by rfl) (hK : X.K = K := by rfl) :
    PSD X K (.Expr (.Call (.Attribute (.Name x px) "append" apos) [e] [] cpos) pos) (tDrop (tBM K "list" rAppend (tVar i) (tCons te tNil))) (dApp i de) := by
  subst hK
  exact ⟨ps_expr (pe_bm PySem.F.plainAttrs_list PySem.F.slot_list_append PySem.F.type_list_append mt_append (pe_var hN hv hd hcd) (L2.pa_cons h.pe L2.pa_nil he) (hfew := hfew) (hs := he) (hplain := hplain) (hbase := hbase) (hline := hline)) hs, sims_app h.sim⟩
theorem s_putL (i : Nat) {x : Str} {px tpos : Pos} (hb : PD X K b tb db) (h : PD X K e te de) (hN : X.N[i]? = some x := by rfl) (hv : Vis X.env.scope x := by first | exact Or.inl rfl | exact Or.inr (Or.inl rfl) | exact Or.inr (Or.inr rfl)) (hd : (x == ("__debug__" : Str)) = false := by decide) (hcd : (x == ("__classdict__" : Str)) = false := by decide)
    (ha : ∀ v, assign (.Subscript (.Name x px) b tpos) X.env v = (do
      let ov ← holding [v] (eval (.Name x px) X.env)
      let iv ← holding [v, ov] (eval b X.env)
      standAt tpos
      holding [v, ov, iv] (setItem ov iv v)
      release [v, ov, iv] []) := by intro _; rfl)
    (hs : swapsWithSole [.Subscript (.Name x px) b tpos] e pos.line X.env = pure false := by rfl) (hw : swappedStores [.Subscript (.Name x px) b tpos] e X.env = pure none := by rfl) (h1 : (assignEach [.Subscript (.Name x px) b tpos] X.env).map (·.2) = [assign (.Subscript (.Name x px) b tpos) X.env] := by rfl) :
    PSD X K (.Assign [.Subscript (.Name x px) b tpos] e pos) (tAsg te (gSub (tVar i) tb rSetL)) (dPutL i db de) := ⟨ps_asg h.pe (pg_sub (pe_var hN hv hd hcd) hb.pe set_list ha) hs hw h1, sims_putL hb.sim h.sim⟩
theorem s_augL (i : Nat) {x : Str} {px tpos : Pos} {op : Operator} {tip : TIp} {f : PyData → PyData → (PyData → Prop) → Prop} (hp : PIp X op tip) (hvs : VSim K tip f) (hb : PD X K b tb db) (h : PD X K e te de) (hN : X.N[i]? = some x := by rfl) (hv : Vis X.env.scope x := by first | exact Or.inl rfl | exact Or.inr (Or.inl rfl) | exact Or.inr (Or.inr rfl)) (hd : (x == ("__debug__" : Str)) = false := by decide) (hcd : (x == ("__classdict__" : Str)) = false := by decide)
    (ha : ∀ ov iv new, augStore b ov iv new = (do holding [new, ov, iv] (setItem ov iv new); release [new, ov, iv] []; pure Flow.next) := by intros; rfl) (hK : X.K = K := by rfl) :
    PSD X K (.AugAssign (.Subscript (.Name x px) b tpos) op e pos) (tAugS (tVar i) tb te (rIxL K) tip rSetL) (dAugL i db f de) := by
  subst hK
  exact ⟨ps_augS (pe_var hN hv hd hcd) hb.pe get_list h.pe hp set_list ha, sims_augL hb.sim h.sim hvs⟩
/-! what is walked -/
theorem i_seq (h : PD X K e te de) (hK : X.K = K := by rfl) : PID X K tg e (iSeq K te) (dSeqI de) := by
  subst hK
  exact ⟨pi_seq h.pe, si_seq h.sim⟩
theorem i_scr (i : Nat) {x : Str} (hN : X.N[i]? = some x := by rfl) (hv : Vis X.env.scope x := by first | exact Or.inl rfl | exact Or.inr (Or.inl rfl) | exact Or.inr (Or.inr rfl)) (hd : (x == ("__debug__" : Str)) = false := by decide) (hcd : (x == ("__classdict__" : Str)) = false := by decide) (hK : X.K = K := by rfl) : PID X K tg (.Name x pos) (iSeq K (tVar i)) (dScrI i) := by
  subst hK
  exact ⟨pi_seq (pe_var hN hv hd hcd), si_scr⟩
theorem i_r1 {t : TA} {d : DN} (hm : X.mg "range" = none) (ha : PAD X K [a] n t d) (hg : Gl X "range" := by rfl) (hs : starEach [a] X.env = [(false, eval a X.env)] := by rfl) : PID X K tg (.Call (.Name "range" p) [a] [] pos) (iRng1 t) (dRng1 d) := ⟨pi_range1 hg hm ha.pa hs, si_rng1 ha.sim⟩
theorem i_r2 {t : TA} {d : DN} (hm : X.mg "range" = none) (ha : PAD X K [a, b] n t d) (hg : Gl X "range" := by rfl) (hs : starEach [a, b] X.env = [(false, eval a X.env), (false, eval b X.env)] := by rfl) (hs2 : starEach [b] X.env = [(false, eval b X.env)] := by rfl) : PID X K tg (.Call (.Name "range" p) [a, b] [] pos) (iRng2 t) (dRng2 d) := ⟨pi_range2 hg hm ha.pa hs hs2, si_rng2 ha.sim⟩
theorem i_zip {t : TA} {d : DN} {elts : List Expr} {kk} {tpos : Pos} (hm : X.mg "zip" = none) (ha : PAD X K [a, b] n t d) (hg : Gl X "zip" := by rfl) (hs : starEach [a, b] X.env = (false, eval a X.env) :: starEach [b] X.env := by rfl) (hpl : (backTo pos (starEach [b] X.env)).any (·.1) = false := by rfl) (hK : X.K = K := by rfl) : PID X K (.Tuple elts kk tpos) (.Call (.Name "zip" p) [a, b] [] pos) (RZ.iZipA K t) (dZip d) := by
  subst hK
  exact ⟨RZ.pi_zipA hg hm ha.pa hs hpl, si_zip ha.sim⟩
theorem i_enum {t : TA} {d : DN} {elts : List Expr} {kk} {tpos : Pos} (hm : X.mg "enumerate" = none) (ha : PAD X K [a] n t d) (hg : Gl X "enumerate" := by rfl) (hs : starEach [a] X.env = [(false, eval a X.env)] := by rfl) (hK : X.K = K := by rfl) : PID X K (.Tuple elts kk tpos) (.Call (.Name "enumerate" p) [a] [] pos) (iEnum K t) (dEnum d) := by
  subst hK
  exact ⟨pi_enum hg hm ha.pa hs, si_enum ha.sim⟩
/-! comprehensions -/
theorem t_yes : PTsD X K [] tYes dYes := ⟨pts_nil, st_yes⟩
theorem t_one (h : PTD X K c tt dt) : PTsD X K [c] tt dt := ⟨pts_one h.pt, h.sim⟩
end
end DL

namespace DL
open PySem PySem.Spec PyProof.Rows L2
open Evl (Ex)
abbrev fLt := fCmp fun i j => decide (i < j)
abbrev fLe := fCmp fun i j => decide (i ≤ j)
abbrev fGt := fCmp fun i j => decide (j < i)
abbrev fGe := fCmp fun i j => decide (j ≤ i)
abbrev fSub := fInt0 fun i j => i - j
abbrev fFdiv := fInt CDivW fun i j => i / j
abbrev fMod := fInt (fun _ j => 0 < j) fun i j => i % j
abbrev fPow := fInt CPow fun i j => i ^ j.toNat
abbrev fIMul := fInt CMul fun i j => i * j
section
variable {X : Cx} {K : PySem.W.Frag} {e a b c tg iter elt tg1 iter1 : Expr} {es ifs ifs1 : List Expr} {pos p : Pos} {ta tb tc te : TE} {da db dc de : DE} {tt tt1 : TT} {dt dt1 : DT} {n : Nat} {dn dn' : DN} {g g1 : TG} {dg dg1 : DG} {js js1 : List Nat} {wi wi1 : TI} {di di1 : DN}
/-- isinstance(e, (T, U)) -/
def dIsi2 (T U : String) (da : DE) : DE := ⟨fun E P => da E fun x => P (.bool (isTy T x || isTy U x)), da.cost⟩
theorem pd_isi2 {T U : String} {TS US : Str} {p2 p3 p4 : Pos} {k2} (hi : Gl X "isinstance") (hm : X.mg "isinstance" = none) (hg : Gl X TS) (hmT : X.mg TS = none) (hv : bootBuiltins TS = some (.type T))
    (hT : T = "int" ∨ T = "bool" ∨ T = "str" ∨ T = "list" ∨ T = "tuple" ∨ T = "dict") (hg' : Gl X US) (hmU : X.mg US = none) (hv' : bootBuiltins US = some (.type U)) (hU : U = "int" ∨ U = "bool" ∨ U = "str" ∨ U = "list" ∨ U = "tuple" ∨ U = "dict")
    (he : PD X K e te de) (hn : TS ≠ "__name__" := by decide) (hd : (TS == ("__debug__" : Str)) = false := by decide) (hn' : US ≠ "__name__" := by decide) (hd' : (US == ("__debug__" : Str)) = false := by decide)
    (hs : starEach (e :: [.Tuple [.Name TS p2, .Name US p3] k2 p4]) X.env = (false, eval e X.env) :: starEach [.Tuple [.Name TS p2, .Name US p3] k2 p4] X.env := by rfl) (hpl : (backTo pos (starEach [.Tuple [.Name TS p2, .Name US p3] k2 p4] X.env)).any (·.1) = false := by rfl)
    (hs0 : starEach (.Tuple [.Name TS p2, .Name US p3] k2 p4 :: []) X.env = (false, eval (.Tuple [.Name TS p2, .Name US p3] k2 p4) X.env) :: starEach [] X.env := by rfl)
    (hs1 : starEach (.Name TS p2 :: [.Name US p3]) X.env = (false, eval (.Name TS p2) X.env) :: starEach [.Name US p3] X.env := by rfl) (hs2 : starEach (.Name US p3 :: []) X.env = (false, eval (.Name US p3) X.env) :: starEach [] X.env := by rfl) (hK : X.K = K := by rfl) :
    PD X K (.Call (.Name "isinstance" p) [e, .Tuple [.Name TS p2, .Name US p3] k2 p4] [] pos) (tCB (rIsiT K) (tCons te (tCons (tTup (tCons (tC (.ty T)) (tCons (tC (.ty U)) tNil))) tNil))) (dIsi2 T U de) := by
  subst hK
  refine ⟨pe_callB call_isiT hi hm boot_isinstance (L2.pa_cons he.pe (L2.pa_cons (pe_tup (L2.pa_cons (pe_bltn hg hmT hv rfl hn hd) (L2.pa_cons (pe_bltn hg' hmU hv' rfl hn' hd') L2.pa_nil hs2) hs1)) L2.pa_nil hs0) hs) (he := hs) (hpl := hpl), ?_⟩
  intro bu σ H G R E Q P r0 hd k
  refine he.sim _ σ H G R E _ _ r0 hd fun v d H1 G1 l1 r1 hx hd1 => ?_
  refine ⟨Evl.sz_of (show 2 ≤ 100000 by decide), fun q hq => ?_⟩
  have g1 := Grow.open_ (o := .tup [.ty T, .ty U]) r1.gh hq
  refine ⟨v, q, [.ty T, .ty U], _, [.type T, .type U], isTy T d || isTy U d, rfl, upd_same, .cons (.ty T) (.cons (.ty U) .nil), dv_ty (r1.gh.trans (Ex.new hq)) hx, ?_, ?_⟩
  · refine kitAny_cons (kit_ty (kit_is T hT d)) (fun e1 => ?_) fun e1 => by rw [e1]; rfl
    refine kitAny_cons (kit_ty (kit_is U hU d)) (fun e2 => ?_) fun e2 => by rw [e1, e2]; rfl
    rw [kitAny_nil, e1, e2]
    rfl
  · exact k _ _ _ G1 l1 (r1.grow g1) (.bl _) hd1
/-! list(range(..)) -/
def rgOk (a b : Int) : Prop := -(2 ^ 62) ≤ a ∧ a < 2 ^ 62 ∧ -(2 ^ 62) ≤ b ∧ b < 2 ^ 62 ∧ (b - a).toNat ≤ 2 ^ 24
def dListR1 (da : DE) : DN := ⟨fun E P => da E fun x => match x with
  | .int n => rgOk 0 n ∧ P (rgD 0 n.toNat)
  | _ => False, da.cost⟩
def dListR2 (da db : DE) : DN := ⟨fun E P => da E fun x => db E fun y => match x, y with
  | .int a, .int b => rgOk a b ∧ P (rgD a (b - a).toNat)
  | _, _ => False, da.cost + db.cost⟩
theorem dvs_rg {K : PySem.W.Frag} {G : Hp} {a : Int} {n : Nat} : Dvs K G ((List.range n).map fun i => V.int (a + (i : Nat))) (rgD a n) := by
  have e : ∀ (l : List Nat), Dvs K G (l.map fun i => V.int (a + (i : Nat))) (l.map fun i => PyData.int (a + (i : Nat))) := by
    intro l
    induction l with
    | nil => exact .nil
    | cons x l ih => exact .cons (.int _) ih
  exact e _
theorem pn_listR1 {pr : Pos} (hm : X.mg "list" = none) (hr : X.mg "range" = none) (ha : PD X K a ta da) (hc : X.calm = true := by rfl) (hg : Gl X "list" := by rfl) (hg2 : Gl X "range" := by rfl) (na : starEach [a] X.env = (false, eval a X.env) :: starEach [] X.env := by rfl)
    (n1 : starEach [.Call (.Name "range" pr) [a] [] pos] X.env = (false, eval (.Call (.Name "range" pr) [a] [] pos) X.env) :: starEach [] X.env := by rfl) {po : Pos} :
    PN X K (.Call (.Name "list" p) [.Call (.Name "range" pr) [a] [] pos] [] po) (tLstRg (tRg1 ta)) (dListR1 da) := by
  refine ⟨pe_listRg hc hg hm (prg_1 hg2 hr ha.pe na) n1, ?_⟩
  intro bu σ H G R E Q P r0 hd k
  refine ha.sim _ σ H G R E _ _ r0 hd fun v d H1 G1 l1 r1 hx hd1 => ?_
  cases d with
  | int n =>
    rw [hx.int_inv]
    refine ⟨n, rfl, hd1.1, fun q hq => ?_⟩
    refine k q _ _ _ G1 l1 (ex_none r1.rh hq) (ex_none r1.gh hq) (r1.hold hq) ?_ hd1.2
    unfold rgV
    have e : (n - 0).toNat = n.toNat := by omega
    rw [e]
    exact dvs_rg
  | _ => exact hd1.elim
theorem pn_listR2 {pr : Pos} (hm : X.mg "list" = none) (hr : X.mg "range" = none) (ha : PD X K a ta da) (hb : PD X K b tb db) (hc : X.calm = true := by rfl) (hg : Gl X "list" := by rfl) (hg2 : Gl X "range" := by rfl) (na : starEach [a, b] X.env = (false, eval a X.env) :: starEach [b] X.env := by rfl)
    (nb : starEach [b] X.env = (false, eval b X.env) :: starEach [] X.env := by rfl) (hp : (backTo pos (starEach [b] X.env)).any (·.1) = false := by rfl)
    (n1 : starEach [.Call (.Name "range" pr) [a, b] [] pos] X.env = (false, eval (.Call (.Name "range" pr) [a, b] [] pos) X.env) :: starEach [] X.env := by rfl) {po : Pos} :
    PN X K (.Call (.Name "list" p) [.Call (.Name "range" pr) [a, b] [] pos] [] po) (tLstRg (tRg2 ta tb)) (dListR2 da db) := by
  refine ⟨pe_listRg hc hg hm (prg_2 hg2 hr ha.pe hb.pe na nb hp) n1, ?_⟩
  intro bu σ H G R E Q P r0 hd k
  refine ha.sim _ σ H G R E _ _ r0.two hd fun v d H1 G1 l1 r1 hx hd1 => ?_
  refine hb.sim _ σ H1 G1 R E _ _ r1 hd1 fun v2 d2 H2 G2 l2 r2 hx2 hd2 => ?_
  split at hd2
  · rw [hx.int_inv, hx2.int_inv]
    refine ⟨_, _, rfl, rfl, hd2.1, fun q hq => ?_⟩
    exact k q _ _ _ G2 (l1.trans l2) (ex_none r2.rh hq) (ex_none r2.gh hq) (r2.hold hq) dvs_rg hd2.2
  · exact hd2.elim
/-! a comprehension as a value or given to a name -/
structure PLc (X : Cx) (K : PySem.W.Frag) (e : Expr) (te : TE) (dn : DN) : Prop where
  pn : PN X K e te dn
  set : ∀ {i : Nat} {y : Str} {py spos : Pos}, X.N[i]? = some y → X.env.scope.names.lookup y = some .local → swapsWith e (some (.Name y py)) spos.line X.env = pure true → PS X (.Assign [.Name y py] e spos) (tAsg te (gName i))
theorem l_lc {scope : Scope} {own : List (Str × Nat)} {vs : List Nat} (own' : List (Str × Nat)) (nd : X.N.Nodup) (hi : PID X K tg iter wi di) (ok : BlkOk X.N X.env.scope scope own) (hg : ∀ (s : Shared) (H : Hp) (C : Addr) (cl : List (Str × Addr)) (fp : List Addr), PGD (X.blk s H scope (compEnvC scope cl C X.env) fp) K tg g dg js)
    (ht : ∀ (s : Shared) (H : Hp) (C : Addr) (cl : List (Str × Addr)) (fp : List Addr), PTsD (X.blk s H scope (compEnvC scope cl C X.env) fp) K ifs tt dt) (he : ∀ (s : Shared) (H : Hp) (C : Addr) (cl : List (Str × Addr)) (fp : List Addr), PD (X.blk s H scope (compEnvC scope cl C X.env) fp) K elt te de)
    (ho : own = own' := by rfl) (hvs : own.map (·.2) = vs := by rfl) (hj : ∀ j ∈ js, j ∈ vs := by decide) (c0 : dt.cost + de.cost = 0 := by rfl) (hc : X.calm = true := by rfl) (hs : ∀ x, foldedSetIterable iter X.env x = pure x := by intro _; rfl) :
    PLc X K (.ListComp elt [⟨tg, iter, ifs, 0⟩] scope pos) (tLc wi g tt te vs) (dLc di dg dt de vs) := by
  subst hvs
  exact ⟨⟨pe_lc hc nd hi.pi ok (fun s H C cl fp => (hg s H C cl fp).pg) (fun s H C cl fp => (ht s H C cl fp).pts) (fun s H C cl fp => (he s H C cl fp).pe) hs, sim_lc hi.sim (hg X.s_0 X.H_0 0 [] []).sim hj (ht X.s_0 X.H_0 0 [] []).sim (he X.s_0 X.H_0 0 [] []).sim c0⟩, fun hN hy hsw => ps_setLc hc nd hN hy hsw hi.pi ok (fun s H C cl fp => (hg s H C cl fp).pg) (fun s H C cl fp => (ht s H C cl fp).pts) (fun s H C cl fp => (he s H C cl fp).pe) hs⟩
theorem l_lcS {scope : Scope} {own : List (Str × Nat)} {vs : List Nat} (own' : List (Str × Nat)) (nd : X.N.Nodup) (hi : PID X K tg iter wi di) (ok : BlkOk X.N X.env.scope scope own) (hg : ∀ (s : Shared) (H : Hp) (C : Addr) (cl : List (Str × Addr)) (fp : List Addr), PGD (X.blk s H scope (compEnvC scope cl C X.env) fp) K tg g dg js)
    (ht : ∀ (s : Shared) (H : Hp) (C : Addr) (cl : List (Str × Addr)) (fp : List Addr), PTsD (X.blk s H scope (compEnvC scope cl C X.env) fp) K ifs tt dt) (he : ∀ (s : Shared) (H : Hp) (C : Addr) (cl : List (Str × Addr)) (fp : List Addr), PD (X.blk s H scope (compEnvC scope cl C X.env) fp) K elt te de)
    (ho : own = own' := by rfl) (hvs : own.map (·.2) = vs := by rfl) (hj : ∀ j ∈ js, j ∈ vs := by decide) (hc : X.calm = true := by rfl) (hs : ∀ x, foldedSetIterable iter X.env x = pure x := by intro _; rfl) :
    PLc X K (.ListComp elt [⟨tg, iter, ifs, 0⟩] scope pos) (tLc wi g tt te vs) (dLcS di dg dt de vs) := by
  subst hvs
  exact ⟨⟨pe_lc hc nd hi.pi ok (fun s H C cl fp => (hg s H C cl fp).pg) (fun s H C cl fp => (ht s H C cl fp).pts) (fun s H C cl fp => (he s H C cl fp).pe) hs, sim_lcS hi.sim (hg X.s_0 X.H_0 0 [] []).sim hj (ht X.s_0 X.H_0 0 [] []).sim (he X.s_0 X.H_0 0 [] []).sim⟩, fun hN hy hsw => ps_setLc hc nd hN hy hsw hi.pi ok (fun s H C cl fp => (hg s H C cl fp).pg) (fun s H C cl fp => (ht s H C cl fp).pts) (fun s H C cl fp => (he s H C cl fp).pe) hs⟩
theorem l_lc2 {scope : Scope} {own : List (Str × Nat)} {vs : List Nat} (own' : List (Str × Nat)) (vs1 : List Nat) (nd : X.N.Nodup) (hi : PID X K tg iter wi di) (ok : BlkOk X.N X.env.scope scope own) (hg : ∀ (s : Shared) (H : Hp) (C : Addr) (cl : List (Str × Addr)) (fp : List Addr), PGD (X.blk s H scope (compEnvC scope cl C X.env) fp) K tg g dg js)
    (ht : ∀ (s : Shared) (H : Hp) (C : Addr) (cl : List (Str × Addr)) (fp : List Addr), PTsD (X.blk s H scope (compEnvC scope cl C X.env) fp) K ifs tt dt)
    (hi1 : ∀ (s : Shared) (H : Hp) (C : Addr) (cl : List (Str × Addr)) (fp : List Addr), PID (X.blk s H scope (compEnvC scope cl C X.env) fp) K tg1 iter1 wi1 di1)
    (hg1 : ∀ (s : Shared) (H : Hp) (C : Addr) (cl : List (Str × Addr)) (fp : List Addr), PGD (X.blk s H scope (compEnvC scope cl C X.env) fp) K tg1 g1 dg1 js1)
    (ht1 : ∀ (s : Shared) (H : Hp) (C : Addr) (cl : List (Str × Addr)) (fp : List Addr), PTsD (X.blk s H scope (compEnvC scope cl C X.env) fp) K ifs1 tt1 dt1)
    (he : ∀ (s : Shared) (H : Hp) (C : Addr) (cl : List (Str × Addr)) (fp : List Addr), PD (X.blk s H scope (compEnvC scope cl C X.env) fp) K elt te de)
    (ho : own = own' := by rfl) (hvs : own.map (·.2) = vs := by rfl) (hj : ∀ j ∈ js, j ∈ vs := by decide) (hj1 : ∀ j ∈ js1, j ∈ vs1 := by decide) (hv : ∀ i ∈ vs1, i ∈ vs := by decide) (c0 : dt.cost + (di1.cost + (dt1.cost + de.cost)) = 0 := by rfl) (hc : X.calm = true := by rfl) (hs : ∀ x, foldedSetIterable iter X.env x = pure x := by intro _; rfl) (hs1 : ∀ env x, foldedSetIterable iter1 env x = pure x := by intro _ _; rfl) :
    PLc X K (.ListComp elt [⟨tg, iter, ifs, 0⟩, ⟨tg1, iter1, ifs1, 0⟩] scope pos) (tLc2 wi g tt wi1 g1 tt1 te vs vs1) (dLc2 di dg dt di1 dg1 dt1 de vs vs1) := by
  subst hvs
  exact ⟨⟨pe_lc2 hc nd hi.pi ok hv (fun s H C cl fp => (hg s H C cl fp).pg) (fun s H C cl fp => (ht s H C cl fp).pts) (fun s H C cl fp => (hi1 s H C cl fp).pi) (fun s H C cl fp => (hg1 s H C cl fp).pg) (fun s H C cl fp => (ht1 s H C cl fp).pts) (fun s H C cl fp => (he s H C cl fp).pe) hs hs1,
    sim_lc2 hi.sim (hg X.s_0 X.H_0 0 [] []).sim hj (ht X.s_0 X.H_0 0 [] []).sim (hi1 X.s_0 X.H_0 0 [] []).sim (hg1 X.s_0 X.H_0 0 [] []).sim hj1 hv (ht1 X.s_0 X.H_0 0 [] []).sim (he X.s_0 X.H_0 0 [] []).sim c0⟩,
   fun hN hy hsw => ps_setLc2 hc nd hN hy hsw hi.pi ok hv (fun s H C cl fp => (hg s H C cl fp).pg) (fun s H C cl fp => (ht s H C cl fp).pts) (fun s H C cl fp => (hi1 s H C cl fp).pi) (fun s H C cl fp => (hg1 s H C cl fp).pg) (fun s H C cl fp => (ht1 s H C cl fp).pts) (fun s H C cl fp => (he s H C cl fp).pe) hs hs1⟩
theorem n_of (h : PLc X K e te dn) : PN X K e te dn := h.pn
theorem s_setLc (i : Nat) {x : Str} {gs : List Comprehension} {scope : Scope} {pos' : Pos} {pl : Pos} (h : PLc X K (.ListComp elt gs scope pl) te dn) (hi : X.N[i]? = some x := by rfl) (hy : X.env.scope.names.lookup x = some .local := by rfl)
    (hsw : swapsWith (.ListComp elt gs scope pl) (some (.Name x pos')) pos.line X.env = pure true := by first | exact sw_true rfl rfl rfl (by decide +kernel) | rfl) : PSD X K (.Assign [.Name x pos'] (.ListComp elt gs scope pl) pos) (tAsg te (gName i)) (dSet i (dFrz dn)) := ⟨h.set hi hy hsw, sims_set h.pn.sim.frz⟩
theorem s_setLcN (i : Nat) {x : Str} {gs : List Comprehension} {scope : Scope} {pos' : Pos} {pl : Pos} (h : PLc X K (.ListComp elt gs scope pl) te dn) (hi : X.N[i]? = some x := by rfl) (hy : X.env.scope.names.lookup x = some .local := by rfl)
    (hsw : swapsWith (.ListComp elt gs scope pl) (some (.Name x pos')) pos.line X.env = pure true := by first | exact sw_true rfl rfl rfl (by decide +kernel) | rfl) : PSD X K (.Assign [.Name x pos'] (.ListComp elt gs scope pl) pos) (tAsg te (gName i)) (dSetN i dn) := ⟨h.set hi hy hsw, sims_setN h.pn.sim⟩
theorem i_r3 {t : TA} {d : DN} (hm : X.mg "range" = none) (ha : PAD X K [a, b, c] n t d) (hg : Gl X "range" := by rfl) (hs : starEach [a, b, c] X.env = (false, eval a X.env) :: starEach [b, c] X.env := by rfl) (hpl : (backTo pos (starEach [b, c] X.env)).any (·.1) = false := by rfl) :
    PID X K tg (.Call (.Name "range" p) [a, b, c] [] pos) (iRng3 t) (dRngN d) := ⟨pi_range3 hg hm ha.pa hs hpl, si_rngN ha.sim⟩
/-- f(state, ..) -/
theorem pd_callS (i : Nat) {c : Nat} {x y : Str} {py : Pos} {k j : Nat} {φ : List PyData → (PyData → Prop) → Prop} {t : TA} {d : DN} (cf : Fn X.prog X.w X.K X.mg X.base k x (spS K φ c)) (hr : Room j X.A) (ha : PAD X K es n t d) (hN : X.N[i]? = some y := by rfl) (hv : Vis X.env.scope y := by first | exact Or.inl rfl | exact Or.inr (Or.inl rfl) | exact Or.inr (Or.inr rfl))
    (hk : k ≤ j := by decide) (hg : Gl X x := by rfl) (hd : (y == ("__debug__" : Str)) = false := by decide) (hcd : (y == ("__classdict__" : Str)) = false := by decide) (hdb : (x == ("__debug__" : Str)) = false := by decide)
    (he : starEach (.Name y py :: es) X.env = (false, eval (.Name y py) X.env) :: starEach es X.env := by rfl) (hpl : (backTo pos (starEach es X.env)).any (·.1) = false := by rfl) (hK : X.K = K := by rfl) : PD X K (.Call (.Name x p) (.Name y py :: es) [] pos) (tCall (spS K φ c) [] L2.E0 (tCons (tVar i) t)) (dCallS i φ c d) := by
  subst hK
  obtain ⟨f, fd, ps, F, hm, kp, b⟩ := cf.ex
  exact ⟨pe_call F (hr.mono hk) hg hm kp b .nil L2.pass0 (L2.pa_cons (pe_var hN hv hd hcd) ha.pa he) hdb he hpl, sim_callS ha.sim⟩
/-- len(script) -/
def dLenScr (i : Nat) : DE := ⟨fun E P => match E[i]? with
  | some (.scr ns) => P (.int ns.length)
  | some (.w ns _ _) => P (.int ns.length)
  | _ => False, 0⟩
theorem pd_lenScr (i : Nat) {y : Str} {px : Pos} (hm : X.mg "len" = none) (hN : X.N[i]? = some y := by rfl) (hvy : Vis X.env.scope y := by first | exact Or.inl rfl | exact Or.inr (Or.inl rfl) | exact Or.inr (Or.inr rfl)) (hg : Gl X "len" := by rfl)
    (hd : (y == ("__debug__" : Str)) = false := by decide) (hcd : (y == ("__classdict__" : Str)) = false := by decide) (he : starEach (.Name y px :: []) X.env = (false, eval (.Name y px) X.env) :: starEach [] X.env := by rfl) (hpl : (backTo pos (starEach [] X.env)).any (·.1) = false := by rfl) (hK : X.K = K := by rfl) :
    PD X K (.Call (.Name "len" p) [.Name y px] [] pos) (tCB (rLenA K) (tCons (tVar i) tNil)) (dLenScr i) := by
  subst hK
  refine ⟨pe_callB call_len hg hm PySem.boot_len (L2.pa_cons (pe_var hN hvy hd hcd) L2.pa_nil he) (by decide) (by decide) he hpl, ?_⟩
  intro bu σ H G R E Q P r hd k
  simp only [dLenScr] at hd
  split at hd
  · rename_i ns e
    obtain ⟨a, h1, h2⟩ := r.script e
    refine ⟨_, h1, _, ns.length, rfl, .inl ⟨_, h2, by rw [List.length_map]⟩, k _ _ H G (Le.refl R G) r (.int _) hd⟩
  · rename_i ns _ _ e
    obtain ⟨a, h1, h2⟩ := r.scriptW e
    refine ⟨_, h1, _, ns.length, rfl, .inl ⟨_, h2, by rw [List.length_map]⟩, k _ _ H G (Le.refl R G) r (.int _) hd⟩
  · exact hd.elim
end
end DL

namespace DL
open PySem PySem.Spec PyProof.Rows L2
open Evl (Ex)
/-! ### helps for the readings of one's own programs -/
theorem br_t {A B : Prop} : Br true A B = A := propext ⟨fun h => h.t rfl, Br.tt⟩
theorem br_f {A B : Prop} : Br false A B = B := propext ⟨fun h => h.f rfl, Br.ff⟩
theorem rg_at {lo : Int} {n i : Nat} {d : PyData} (h : (rgD lo n)[i]? = some d) : i < n ∧ d = .int (lo + (i : Int)) := rgD_at h
theorem iL_at {ns : List Int} {i : Nat} {d : PyData} (h : (iL ns)[i]? = some d) : ∃ n, ns[i]? = some n ∧ d = .int n := by
  rw [List.getElem?_map] at h
  cases q : ns[i]? with
  | none => rw [q] at h; cases h
  | some n => rw [q] at h; exact ⟨n, rfl, (Option.some.inj h).symm⟩
theorem iL_len (ns : List Int) : (iL ns).length = ns.length := List.length_map ..
theorem ixN_in {n : Nat} {i : Int} (h0 : 0 ≤ i) (h : i < n) : ixN n i = some i.toNat := by
  unfold ixN
  rw [if_pos h0, if_pos h]
theorem ixN_nat {n i : Nat} (h : i < n) : ixN n (i : Int) = some i := ixN_in (by omega) (by omega)
theorem atI_in {α : Type} {xs : List α} {i : Int} (h0 : 0 ≤ i) (h : i < xs.length) : atI xs i = xs[i.toNat]? := by
  unfold atI
  rw [ixN_in h0 h]
  rfl
theorem atI_nat {α : Type} {xs : List α} {i : Nat} {x : α} (h : xs[i]? = some x) : atI xs (i : Int) = some x := by
  have hl : i < xs.length := (List.getElem?_eq_some_iff.mp h).1
  rw [atI_in (by omega) (by omega)]
  exact h
theorem atI_int {ns : List Int} {i : Int} {x : Int} (h0 : 0 ≤ i) (h : ns[i.toNat]? = some x) : atI (iL ns) i = some (.int x) := by
  have hl : i.toNat < ns.length := (List.getElem?_eq_some_iff.mp h).1
  rw [atI_in h0 (by rw [iL_len]; omega), List.getElem?_map, h]
  rfl
/-! isinstance of what stands there -/
theorem ty_int_non  : isTy "int" .none = false := by simp [isTy, tyD]
theorem ty_int_bool (x : Bool) : isTy "int" (.bool x) = true := by simp [isTy, tyD]
theorem ty_int_int (x : Int) : isTy "int" (.int x) = true := by simp [isTy, tyD]
theorem ty_int_str (x : Str) : isTy "int" (.str x) = false := by simp [isTy, tyD]
theorem ty_int_list (x : List PyData) : isTy "int" (.list x) = false := by simp [isTy, tyD]
theorem ty_int_tuple (x : List PyData) : isTy "int" (.tuple x) = false := by simp [isTy, tyD]
theorem ty_bool_non  : isTy "bool" .none = false := by simp [isTy, tyD]
theorem ty_bool_bool (x : Bool) : isTy "bool" (.bool x) = true := by simp [isTy, tyD]
theorem ty_bool_int (x : Int) : isTy "bool" (.int x) = false := by simp [isTy, tyD]
theorem ty_bool_str (x : Str) : isTy "bool" (.str x) = false := by simp [isTy, tyD]
theorem ty_bool_list (x : List PyData) : isTy "bool" (.list x) = false := by simp [isTy, tyD]
theorem ty_bool_tuple (x : List PyData) : isTy "bool" (.tuple x) = false := by simp [isTy, tyD]
theorem ty_str_non  : isTy "str" .none = false := by simp [isTy, tyD]
theorem ty_str_bool (x : Bool) : isTy "str" (.bool x) = false := by simp [isTy, tyD]
theorem ty_str_int (x : Int) : isTy "str" (.int x) = false := by simp [isTy, tyD]
theorem ty_str_str (x : Str) : isTy "str" (.str x) = true := by simp [isTy, tyD]
theorem ty_str_list (x : List PyData) : isTy "str" (.list x) = false := by simp [isTy, tyD]
theorem ty_str_tuple (x : List PyData) : isTy "str" (.tuple x) = false := by simp [isTy, tyD]
theorem ty_list_non  : isTy "list" .none = false := by simp [isTy, tyD]
theorem ty_list_bool (x : Bool) : isTy "list" (.bool x) = false := by simp [isTy, tyD]
theorem ty_list_int (x : Int) : isTy "list" (.int x) = false := by simp [isTy, tyD]
theorem ty_list_str (x : Str) : isTy "list" (.str x) = false := by simp [isTy, tyD]
theorem ty_list_list (x : List PyData) : isTy "list" (.list x) = true := by simp [isTy, tyD]
theorem ty_list_tuple (x : List PyData) : isTy "list" (.tuple x) = false := by simp [isTy, tyD]
theorem ty_tuple_non  : isTy "tuple" .none = false := by simp [isTy, tyD]
theorem ty_tuple_bool (x : Bool) : isTy "tuple" (.bool x) = false := by simp [isTy, tyD]
theorem ty_tuple_int (x : Int) : isTy "tuple" (.int x) = false := by simp [isTy, tyD]
theorem ty_tuple_str (x : Str) : isTy "tuple" (.str x) = false := by simp [isTy, tyD]
theorem ty_tuple_list (x : List PyData) : isTy "tuple" (.list x) = false := by simp [isTy, tyD]
theorem ty_tuple_tuple (x : List PyData) : isTy "tuple" (.tuple x) = true := by simp [isTy, tyD]
theorem ty_dict_non  : isTy "dict" .none = false := by simp [isTy, tyD]
theorem ty_dict_bool (x : Bool) : isTy "dict" (.bool x) = false := by simp [isTy, tyD]
theorem ty_dict_int (x : Int) : isTy "dict" (.int x) = false := by simp [isTy, tyD]
theorem ty_dict_str (x : Str) : isTy "dict" (.str x) = false := by simp [isTy, tyD]
theorem ty_dict_list (x : List PyData) : isTy "dict" (.list x) = false := by simp [isTy, tyD]
theorem ty_dict_tuple (x : List PyData) : isTy "dict" (.tuple x) = false := by simp [isTy, tyD]
end DL

namespace DL
open PySem PySem.Spec PyProof.Rows L2
/-! ### how often -/
def hist (D : Nat) (xs : List Int) : List Int := (List.range D).map fun (k : Nat) => (xs.count (k : Int) : Int)
theorem hist_len (D : Nat) (xs : List Int) : (hist D xs).length = D := by simp [hist]
theorem hist_get {D : Nat} {xs : List Int} {k : Nat} (h : k < D) : (hist D xs)[k]? = some (xs.count (k : Int) : Int) := by simp [hist, h]
theorem hist_nil (D : Nat) : hist D [] = List.replicate D 0 := by
  apply List.ext_getElem?
  intro i
  by_cases h : i < D
  · rw [hist_get h]; simp [h]
  · rw [List.getElem?_eq_none (by rw [hist_len]; omega), List.getElem?_eq_none (by simp; omega)]
theorem hist_perm {D : Nat} {xs ys : List Int} (h : xs.Perm ys) : hist D xs = hist D ys := by
  unfold hist
  exact List.map_congr_left fun k _ => by rw [h.count_eq]
theorem hist_push {D : Nat} {xs : List Int} {x : Int} {c : Int} (h0 : 0 ≤ x) (h : x < D) (hc : c = (xs.count x : Int) + 1) : (hist D xs).set x.toNat c = hist D (xs ++ [x]) := by
  apply List.ext_getElem?
  intro i
  by_cases e : x.toNat = i
  · subst e
    rw [List.getElem?_set_self (by rw [hist_len]; omega), hist_get (by omega), hc]
    congr 1
    have : ((x.toNat : Nat) : Int) = x := by omega
    rw [this, List.count_append]
    simp
  · rw [List.getElem?_set_ne e]
    by_cases hi : i < D
    · rw [hist_get hi, hist_get hi, List.count_append]
      have : ¬ (x = (i : Int)) := by omega
      simp [this]
    · rw [List.getElem?_eq_none (by rw [hist_len]; omega), List.getElem?_eq_none (by rw [hist_len]; omega)]
theorem sum_add {α : Type} (f g : α → Int) : ∀ l : List α, (l.map fun x => f x + g x).sum = (l.map f).sum + (l.map g).sum
  | [] => rfl
  | a :: l => by
    simp only [List.map_cons, List.sum_cons]
    rw [sum_add f g l]
    omega
theorem sum_zero {α : Type} (f : α → Int) : ∀ l : List α, (∀ x ∈ l, f x = 0) → (l.map f).sum = 0
  | [], _ => rfl
  | a :: l, h => by
    simp only [List.map_cons, List.sum_cons]
    rw [sum_zero f l fun x hx => h x (List.mem_cons_of_mem _ hx), h a List.mem_cons_self]
    rfl
theorem sum_one (D : Nat) (x : Int) (h0 : 0 ≤ x) (h : x < D) : ((List.range D).map fun (k : Nat) => if x = (k : Int) then (1 : Int) else 0).sum = 1 := by
  induction D with
  | zero => omega
  | succ D ih =>
    rw [List.range_succ, List.map_append, List.sum_append]
    by_cases e : x = D
    · rw [sum_zero]
      · simp [e]
      · intro k hk
        have := List.mem_range.mp hk
        rw [if_neg (by omega)]
    · rw [ih (by omega)]
      simp [e]
theorem hist_sum {D : Nat} : ∀ {xs : List Int}, (∀ x ∈ xs, 0 ≤ x ∧ x < D) → (hist D xs).sum = xs.length
  | [], _ => by rw [hist_nil]; induction D with
    | zero => rfl
    | succ n ih => rw [List.replicate_succ, List.sum_cons, ih (by intro _ h; cases h)]; rfl
  | x :: xs, h => by
    have e : hist D (x :: xs) = (List.range D).map fun (k : Nat) => (if x = (k : Int) then (1 : Int) else 0) + (xs.count (k : Int) : Int) := by
      unfold hist
      refine List.map_congr_left fun k _ => ?_
      rw [List.count_cons]
      by_cases e : x = (k : Int)
      · simp [e]; omega
      · simp [e]
    rw [e, sum_add, sum_one D x (h x List.mem_cons_self).1 (h x List.mem_cons_self).2]
    have ih := hist_sum (xs := xs) fun y hy => h y (List.mem_cons_of_mem _ hy)
    unfold hist at ih
    rw [ih]
    simp only [List.length_cons]
    omega
theorem iL_set (ns : List Int) (j : Nat) (v : Int) : (iL ns).set j (.int v) = iL (ns.set j v) := (List.map_set ..).symm
theorem rep_one {x : PyData} : ∀ n : Nat, (List.replicate n [x]).flatten = List.replicate n x
  | 0 => rfl
  | n + 1 => by rw [List.replicate_succ, List.replicate_succ, List.flatten_cons, rep_one n]; rfl
theorem rep0 (n : Nat) : (List.replicate n [PyData.int 0]).flatten = iL (List.replicate n 0) := by rw [rep_one, iL, List.map_replicate]
theorem cutD_from {ds : List PyData} {k : Nat} : cutD ds (some (k : Int)) none = ds.drop k := by
  unfold cutD
  rw [HT.sIx_nat, HT.sIx_none]
  by_cases h : k ≤ ds.length
  · rw [Nat.min_eq_left h, List.take_of_length_le (by simp)]
  · rw [Nat.min_eq_right (by omega), List.drop_length, List.drop_eq_nil_of_le (by omega), List.take_nil]
theorem cutD_to {ds : List PyData} {k : Nat} : cutD ds none (some (k : Int)) = ds.take k := by
  unfold cutD
  rw [HT.sIx_nat, HT.sIx_none]
  by_cases h : k ≤ ds.length
  · rw [Nat.min_eq_left h]; rfl
  · rw [Nat.min_eq_right (by omega), List.drop_zero, Nat.sub_zero, List.take_length, List.take_of_length_le (by omega)]
theorem sub_gcd {x y a b : Int} (hg : Int.gcd x y = Int.gcd a b) : Int.gcd y (x % y) = Int.gcd a b := by
  rw [← hg, Int.emod_def, Int.sub_eq_add_neg, ← Int.mul_neg, Int.gcd_add_mul_left_right, Int.gcd_comm]
theorem perm_flatMap {α β : Type} {f g : α → List β} : ∀ {l : List α}, (∀ a ∈ l, (f a).Perm (g a)) → (l.flatMap f).Perm (l.flatMap g)
  | [], _ => .refl _
  | a :: l, h => by
    rw [List.flatMap_cons, List.flatMap_cons]
    exact (h a List.mem_cons_self).append (perm_flatMap fun b hb => h b (List.mem_cons_of_mem _ hb))
theorem flatMap_take {α β : Type} {f : α → List β} {l : List α} {i : Nat} {a : α} (h : l[i]? = some a) : (l.take (i + 1)).flatMap f = (l.take i).flatMap f ++ f a := by
  rw [List.take_succ, h]
  simp [List.flatMap_append]
theorem map_take {α β : Type} {f : α → β} {l : List α} {i : Nat} {a : α} (h : l[i]? = some a) : (l.take (i + 1)).map f = (l.take i).map f ++ [f a] := by
  rw [List.take_succ, h]
  simp
theorem take_push {α : Type} {l : List α} {i : Nat} {a : α} (h : l[i]? = some a) : l.take i ++ [a] = l.take (i + 1) := by
  rw [List.take_succ, h]
  rfl
theorem take_all {α : Type} {l : List α} {n : Nat} (h : n = l.length) : l.take n = l := by rw [h, List.take_length]
theorem take_nil0 {α : Type} {l : List α} : ([] : List α) = l.take 0 := rfl
theorem bools_at {n : Nat} {l : List PyData} {i : Nat} {x : PyData} (hx : l[i]? = some x) (h : l.length = n) : ((List.replicate n true).map PyData.bool)[i]? = some (.bool true) := by
  have := (List.getElem?_eq_some_iff.mp hx).1
  rw [List.map_replicate, List.getElem?_replicate, if_pos (by omega)]
theorem all_rep (n : Nat) : (List.replicate n true).all id = true := by simp
end DL

namespace DL
open PySem PySem.Spec PyProof.Rows L2
open Evl (Ex)
theorem shaped_ints (ns : List Int) : SeqAt.shaped (.list (iL ns)) = true := by
  show (PyData.canLay0 (.list (ns.map .int)) && decide (PyData.depth (.list (ns.map .int)) ≤ 64)) = true
  simp only [PyData.canLay0, canLayAll_ints, PyData.depth, depthAll_ints]
  decide
theorem seq_nat {m n : Nat} (h : m < n) : seqIndex? (m : Int) n = some m := by
  unfold seqIndex?
  have e1 : ¬ ((m : Int) < 0) := by omega
  have e2 : (m : Int) < n := by omega
  have e3 : (0 : Int) ≤ m := by omega
  simp [e1, e2, e3]
theorem shaped_nil : SeqAt.shaped (.list []) = true := shaped_ints []
theorem eqv_nil (xs : List PyData) : PyData.eqv (.list xs) (.list []) = xs.isEmpty := by
  cases xs <;> simp [PyData.eqv, PyData.eqvAll]
section
variable {X : Cx} {K : PySem.W.Frag} {te : TE} {de : DE} {bu : Nat} {σ : L2.St} {H G R : Hp} {E : Env}
/-! ### the state's parts -/
def dStInt (i : Nat) : DE := ⟨fun E P => match E[i]? with
  | some (.s _) => ∀ t : Int, 0 ≤ t → P (.int t)
  | _ => False, 0⟩
/-- the number of mixings so far -/
def dStTurn (i : Nat) : DE := ⟨fun E P => match E[i]? with
  | some (.s _) => ∀ t : Int, 0 ≤ t → t ≤ 2 ^ 46 → P (.int t)
  | _ => False, 0⟩
def dStCells (i : Nat) : DE := ⟨fun E P => match E[i]? with
  | some (.s _) => ∀ cs : List Int, (∀ x ∈ cs, 0 ≤ x) → cs.length ≤ 1000 → P (.list (iL cs))
  | _ => False, 0⟩
theorem sim_stRest {i : Nat} : Sim K (tDGet (tVar i) (tC (.str "rest"))) (dStInt i) := by
  intro bu σ H G R E Q P r hd k
  simp only [dStInt] at hd
  split at hd
  · rename_i a e
    obtain ⟨g, h1, ⟨c, gs, cs, rr, t, e1, e2, e3, p1, p2, p3, p4, _⟩, _⟩ := r.st e
    exact ⟨_, h1, a, .int rr, rfl, DGet.k (k := .inr "rest") e1, k _ _ H G (Le.refl R G) r (.int rr) (hd rr p3)⟩
  · exact hd.elim
theorem sim_stTurn {i : Nat} : Sim K (tDGet (tVar i) (tC (.str "turn"))) (dStTurn i) := by
  intro bu σ H G R E Q P r hd k
  simp only [dStTurn] at hd
  split at hd
  · rename_i a e
    obtain ⟨g, h1, ⟨c, gs, cs, rr, t, e1, e2, e3, p1, p2, p3, p4, p5, p6, p7⟩, _⟩ := r.st e
    exact ⟨_, h1, a, .int t, rfl, DGet.k (k := .inr "turn") e1, k _ _ H G (Le.refl R G) r (.int t) (hd t p4 (by omega))⟩
  · exact hd.elim
theorem sim_stCells {i : Nat} : Sim K (tDGet (tVar i) (tC (.str "cells"))) (dStCells i) := by
  intro bu σ H G R E Q P r hd k
  simp only [dStCells] at hd
  split at hd
  · rename_i a e
    obtain ⟨g, h1, ⟨c, gs, cs, rr, t, e1, e2, e3, p1, p2, p3, p4, _, p6, _⟩, _⟩ := r.st e
    exact ⟨_, h1, a, .ref c, rfl, DGet.k (k := .inr "cells") e1, k _ _ H G (Le.refl R G) r (.lst e3 (Dvs.of_ints cs)) (hd cs p2 p6)⟩
  · exact hd.elim
/-- the state after a change of its dict -/
theorem Rel.stDict {b b' : Nat} {i : Nat} {a g c : Addr} {gs cs : List Int} {rr t : Int} (r : Rel K b σ H G R E) (h : E[i]? = some (.s a)) (ne : a ≠ g) (ga : G a = none) (gg : G g = none) (e1 : H a = some (stD g c rr t)) (e2 : H g = some (.lst (gs.map V.int))) (e3 : G c = some (.lst (cs.map V.int)))
    (p1 : ∀ x ∈ gs, 0 ≤ x) (p2 : ∀ x ∈ cs, 0 ≤ x) (p3 : 0 ≤ rr) (p4 : 0 ≤ t) (p5 : gs.length ≤ 1000) (p6 : cs.length ≤ 1000) (p7 : t + b ≤ 2 ^ 46) {rr' t' : Int} (q3 : 0 ≤ rr') (q4 : 0 ≤ t') (q7 : t' + b' ≤ 2 ^ 46) (hb : b' ≤ b) : Rel K b' σ (upd H a (stD g c rr' t')) G R E := by
  refine r.putS (b1 := b) (b' := b') (g := g) (g' := g) h ⟨c, gs, cs, rr, t, e1, e2, e3, p1, p2, p3, p4, p5, p6, p7⟩ (Le.refl _ _) (fun b o hb => ?_) (fun b o hb => ?_) ⟨c, gs, cs, rr', t', upd_same, by rw [upd_ne (Ne.symm ne)]; exact e2, e3, p1, p2, q3, q4, p5, p6, q7⟩ ne ga gg del2_g hb
  · obtain ⟨q1, q2, _⟩ := del2_at hb
    rw [upd_ne q2]
    exact q1
  · have hb' : b ≠ a := fun z => by rw [z, ga] at hb; cases hb
    rw [upd_ne hb']
    exact r.gh b o hb
/-- state["rest"] = e, state["turn"] = e -/
def dStPut (i : Nat) (de : DE) : DS := ⟨fun DD E => match E[i]? with
  | some (.s _) => de E fun x => match x with
    | .int t => 0 ≤ t ∧ DD.nx E
    | _ => False
  | _ => False, de.cost⟩
theorem put_rest {g c : Addr} {rr t z : Int} : putK ([(Sum.inr "great", V.ref g), (.inr "cells", .ref c), (.inr "rest", .int rr), (.inr "turn", .int t)] : List (Key × V)) (Sum.inr "rest" : Key) (.int z) = [((Sum.inr "great" : Key), V.ref g), (.inr "cells", .ref c), (.inr "rest", .int z), (.inr "turn", .int t)] := rfl
theorem put_turn {g c : Addr} {rr t z : Int} : putK ([(Sum.inr "great", V.ref g), (.inr "cells", .ref c), (.inr "rest", .int rr), (.inr "turn", .int t)] : List (Key × V)) (Sum.inr "turn" : Key) (.int z) = [((Sum.inr "great" : Key), V.ref g), (.inr "cells", .ref c), (.inr "rest", .int rr), (.inr "turn", .int z)] := rfl
theorem sims_stRest {i : Nat} (h : Sim K te de) : SimS K (sDPut (tVar i) (tC (.str "rest")) te) (dStPut i de) := by
  intro bu DD D σ H G R E r hd k
  simp only [dStPut] at hd
  split at hd
  · rename_i a e
    refine h _ σ H G R E _ _ r hd fun v d H1 G1 l1 r1 hv hd1 => ?_
    split at hd1
    · obtain ⟨g, h1, ⟨c, gs, cs, rr, t, e1, e2, e3, p1, p2, p3, p4, p5, p6, p7⟩, ne, ga, gg, _⟩ := r1.st e
      rw [hv.int_inv]
      refine ⟨_, h1, a, _, rfl, DPut.k (k := .inr "rest") e1 (by rw [sizeLine_eq]; exact (by decide : 4 < 16777216)), ?_⟩
      rw [put_rest]
      exact k.nx _ _ G1 _ l1 (r1.stDict e ne ga gg e1 e2 e3 p1 p2 p3 p4 p5 p6 p7 hd1.1 p4 p7 (Nat.le_refl _)) hd1.2
    · exact hd1.elim
  · exact hd.elim
/-- turn, found = (state["turn"] + 1, 0); state["turn"] = turn: one mixing is paid -/
def dMixed (i j l : Nat) : DS := ⟨fun DD E => match E[i]? with
  | some (.s _) => j < E.length ∧ ∀ t : Int, 0 ≤ t → t ≤ 2 ^ 46 → DD.nx ((E.set j (.d (.int t))).set l (.d (.int 0)))
  | _ => False, 1⟩
theorem sims_mixed {i j l : Nat} (hij : j ≠ i) (hil : l ≠ i) (hlj : l ≠ j) : SimS K (tSeq (tPar j l (tCons (tOp (rAddA K) (tDGet (tVar i) (tC (.str "turn"))) (tC (.int 1))) (tCons (tC (.int 0)) tNil))) (sDPut (tVar i) (tC (.str "turn")) (tVar j))) (dMixed i j l) := by
  intro bu DD D σ H G R E r hd k
  simp only [dMixed] at hd
  split at hd
  · rename_i a e
    obtain ⟨g, h1, ⟨c, gs, cs, rr, t, e1, e2, e3, p1, p2, p3, p4, p5, p6, p7⟩, ne, ga, gg, _⟩ := r.st e
    have p7' : t + ((bu + 1 : Nat) : Int) ≤ 2 ^ 46 := p7
    refine ⟨_, h1, a, .int t, rfl, DGet.k (k := .inr "turn") e1, .inl ⟨t, 1, rfl, rfl, ?_⟩⟩
    refine ⟨_, _, rfl, ?_⟩
    have r1 : Rel K (bu + 1) ((σ.set j (some (.int (t + 1)))).set l (some (.int 0))) H G R ((E.set j (.d (.int (t + 1)))).set l (.d (.int 0))) := (r.set (.int (t + 1))).set (.int 0)
    have ee : ((E.set j (.d (.int (t + 1)))).set l (.d (.int 0)))[i]? = some (.s a) := by rw [List.getElem?_set_ne hil, List.getElem?_set_ne hij]; exact e
    have hjl := hd.1
    obtain ⟨g2, h1', _⟩ := r1.st ee
    have hv : ((E.set j (.d (.int (t + 1)))).set l (.d (.int 0)))[j]? = some (.d (.int (t + 1))) := by rw [List.getElem?_set_ne hlj, List.getElem?_set_self hjl]
    obtain ⟨v, hv1, hv2⟩ := r1.dat hv
    rw [hv2.int_inv] at hv1
    refine ⟨_, hv1, _, h1', a, _, rfl, DPut.k (k := .inr "turn") e1 (by rw [sizeLine_eq]; exact (by decide : 4 < 16777216)), ?_⟩
    rw [put_turn]
    exact k.nx _ _ G _ (Le.refl R G) (r1.stDict ee ne ga gg e1 e2 e3 p1 p2 p3 p4 p5 p6 p7 p3 (by omega) (by omega) (Nat.le_succ bu)) (hd.2 (t + 1) (by omega) (by omega))
  · exact hd.elim
/-- state["great"].pop(0) if state["great"] != [] else _law_mixed(state) -/
def tStNext (K : PySem.W.Frag) (φ : List PyData → (PyData → Prop) → Prop) (c : Nat) (i : Nat) : TE :=
  tIf (tTest (tOp (rNeD K) (tDGet (tVar i) (tC (.str "great"))) (tLst tNil))) (tBM K "list" rPopAt (tDGet (tVar i) (tC (.str "great"))) (tCons (tC (.int 0)) tNil)) (tCall (spS K φ c) [] L2.E0 (tCons (tVar i) tNil))
/-- its worth: a number; it mixes at most c times -/
def dStNext (i c : Nat) : DE := ⟨fun E P => match E[i]? with
  | some (.s _) => ∀ t : Int, 0 ≤ t → P (.int t)
  | _ => False, c⟩
theorem sim_stNext {c : Nat} {φ : List PyData → (PyData → Prop) → Prop} {i : Nat} (hφ : ∀ P : PyData → Prop, (∀ t : Int, 0 ≤ t → P (.int t)) → φ [] P) : Sim K (tStNext K φ c i) (dStNext i c) := by
  intro bu σ H G R E Q P r hd k
  simp only [dStNext] at hd
  split at hd
  · rename_i a e
    obtain ⟨g, h1, ⟨c1, gs, cs, rr, t, e1, e2, e3, p1, p2, p3, p4, p5, p6, p7⟩, ne, ga, gg, ra, rg⟩ := r.st e
    refine ⟨_, h1, a, .ref g, rfl, DGet.k (k := .inr "great") e1, Evl.sz_of (by decide), fun q hq => ?_⟩
    have r1 := r.grow (Grow.open_ (o := .lst []) r.gh hq)
    have hg1 : (upd H q (.lst [])) g = some (.lst (gs.map V.int)) := by
      rw [upd_ne]
      · exact e2
      · intro z; rw [z, hq] at e2; cases e2
    refine ⟨.list (iL gs), .list [], (Dv.lst (G := upd H q (.lst [])) hg1 (Dvs.of_ints gs)).dp, (Dv.lst (G := upd H q (.lst [])) upd_same .nil).dp, shaped_ints gs, shaped_nil, _, rfl, ?_⟩
    rw [eqv_nil]
    obtain ⟨g2, h1', ⟨c', gs', cs', rr', t', e1', e2', e3', p1', p2', p3', p4', p5', p6', p7'⟩, ne', ga', gg', _⟩ := r1.st e
    have ea : (upd H q (.lst [])) a = some (stD g c1 rr t) := by
      rw [upd_ne]
      · exact e1
      · intro z; rw [z, hq] at e1; cases e1
    cases gs with
    | nil =>
      show tCall (spS K φ c) [] L2.E0 (tCons (tVar i) tNil) σ (upd H q (.lst [])) Q
      refine sim_callS (c := c) sim_nil bu σ _ G R E Q P (r1.dn (by show bu + (0 + c) ≤ bu + c; omega)) ?_ k
      simp only [dCallS]
      rw [e]
      exact hφ P hd
    | cons y ys =>
      refine ⟨_, h1, a, .ref g, rfl, DGet.k (k := .inr "great") ea, .inl ⟨rfl, _, .inl (.inl hg1)⟩, ?_⟩
      refine ⟨g, (y :: ys).map V.int, 0, 0, .int y, rfl, rfl, hg1, by decide, by decide, seq_nat (by simp) , rfl, ?_⟩
      have hy := p1 y List.mem_cons_self
      refine k (.int y) (.int y) _ G (Le.refl R G) ?_ (.int y) (hd y hy)
      refine r1.putS (b1 := bu + c) (b' := bu) (g := g) (g' := g) e ⟨c1, y :: ys, cs, rr, t, ea, hg1, e3, p1, p2, p3, p4, p5, p6, p7⟩ (Le.refl _ _) (fun b o hb => ?_) (fun b o hb => ?_) ⟨c1, ys, cs, rr, t, by rw [upd_ne ne]; exact ea, upd_same, e3, fun x hx => p1 x (List.mem_cons_of_mem _ hx), p2, p3, p4, by simp at p5; omega, p6, by have p8 : t + ((bu + c : Nat) : Int) ≤ 2 ^ 46 := p7; omega⟩ ne ga gg del2_g
      · obtain ⟨q1, _, q2⟩ := del2_at hb
        rw [upd_ne q2]
        exact q1
      · have hb' : b ≠ g := fun z => by rw [z, gg] at hb; cases hb
        rw [upd_ne hb']
        exact r1.gh b o hb
  · exact hd.elim
/-- found.append(left.pop(e)), both our own -/
def dAppPop (j i : Nat) (de : DE) : DS := ⟨fun DD E => match E[j]?, E[i]? with
  | some (.l ys), some (.l xs) => de E fun z => match z with
    | .int n => ∃ k x, 0 ≤ n ∧ n < 2 ^ 63 ∧ n = ((k : Nat) : Int) ∧ xs[k]? = some x ∧ ys.length < sizeLine ∧ DD.nx ((E.set i (.l (xs.eraseIdx k))).set j (.l (ys ++ [x])))
    | _ => False
  | _, _ => False, de.cost⟩
theorem Dvs.erase {G : Hp} : ∀ {vs : List V} {ds : List PyData} (n : Nat), Dvs K G vs ds → Dvs K G (vs.eraseIdx n) (ds.eraseIdx n)
  | _, _, _, .nil => .nil
  | _, _, 0, .cons _ r => r
  | _, _, n + 1, .cons h r => .cons h (Dvs.erase n r)
theorem sims_appPop {j i : Nat} (hij : i ≠ j) (h : Sim K te de) : SimS K (tDrop (tBM K "list" rAppend (tVar j) (tCons (tBM K "list" rPopAt (tVar i) (tCons te tNil)) tNil))) (dAppPop j i de) := by
  intro bu DD D σ H G R E r hd k
  simp only [dAppPop] at hd
  split at hd
  · rename_i ys xs e e'
    obtain ⟨a, us, h1, h2, h3⟩ := r.lst e
    obtain ⟨b, ws, f1, f2, f3⟩ := r.lst e'
    refine ⟨_, h1, .inl ⟨rfl, us, .inl (.inl h2)⟩, _, f1, .inl ⟨rfl, ws, .inl (.inl f2)⟩, h _ σ H G R E _ _ r hd fun z dz H' G' l r' hz hp => ?_⟩
    split at hp
    · obtain ⟨m, x, n0, n1, en, hx, hs, hp⟩ := hp
      obtain ⟨b', ws', f1', f2', f3'⟩ := r'.lst e'
      rw [f1] at f1'
      cases f1'
      obtain ⟨w, hw, dw⟩ := f3'.at_ hx
      rw [hz.int_inv]
      have hm : m < ws'.length := (List.getElem?_eq_some_iff.mp hw).1
      refine ⟨b, ws', _, m, w, rfl, rfl, f2', by omega, n1, by rw [en]; exact seq_nat hm, hw, ?_⟩
      have r2 := r'.putL e' f1 (Dvs.erase m f3')
      have e2 : (E.set i (.l (xs.eraseIdx m)))[j]? = some (.l ys) := by rw [List.getElem?_set_ne hij]; exact e
      obtain ⟨a', us', h1', h2', h3'⟩ := r2.lst e2
      rw [h1] at h1'
      cases h1'
      exact ⟨a, us', w, rfl, rfl, h2', by rw [h3'.length]; exact hs, k.nx _ _ G' _ l (r2.putL e2 h1 (h3'.append (.one dw))) hp⟩
    · exact hp.elim
  · exact hd.elim
end
/-! ### the terms -/
section
variable {X : Cx} {K : PySem.W.Frag} {e a b c : Expr} {pos p px p2 p3 : Pos} {te : TE} {de : DE} {n i j : Nat} {x : Str}
theorem pd_stRest (i : Nat) (hr : Room n X.A) (hN : X.N[i]? = some x := by rfl) (hv : Vis X.env.scope x := by first | exact Or.inl rfl | exact Or.inr (Or.inl rfl) | exact Or.inr (Or.inr rfl)) (hd : (x == ("__debug__" : Str)) = false := by decide) (hcd : (x == ("__classdict__" : Str)) = false := by decide) (hs : NoSl (.Constant (.str "rest") j p2) := by exact fun _ _ => rfl) :
    PD X K (.Subscript (.Name x px) (.Constant (.str "rest") j p2) pos) (tDGet (tVar i) (tC (.str "rest"))) (dStInt i) := ⟨pe_dget (by have := hr.units; omega) (pe_var hN hv hd hcd) pe_str hs, sim_stRest⟩
theorem pd_stTurn (i : Nat) (hr : Room n X.A) (hN : X.N[i]? = some x := by rfl) (hv : Vis X.env.scope x := by first | exact Or.inl rfl | exact Or.inr (Or.inl rfl) | exact Or.inr (Or.inr rfl)) (hd : (x == ("__debug__" : Str)) = false := by decide) (hcd : (x == ("__classdict__" : Str)) = false := by decide) (hs : NoSl (.Constant (.str "turn") j p2) := by exact fun _ _ => rfl) :
    PD X K (.Subscript (.Name x px) (.Constant (.str "turn") j p2) pos) (tDGet (tVar i) (tC (.str "turn"))) (dStTurn i) := ⟨pe_dget (by have := hr.units; omega) (pe_var hN hv hd hcd) pe_str hs, sim_stTurn⟩
theorem pd_stCells (i : Nat) (hr : Room n X.A) (hN : X.N[i]? = some x := by rfl) (hv : Vis X.env.scope x := by first | exact Or.inl rfl | exact Or.inr (Or.inl rfl) | exact Or.inr (Or.inr rfl)) (hd : (x == ("__debug__" : Str)) = false := by decide) (hcd : (x == ("__classdict__" : Str)) = false := by decide) (hs : NoSl (.Constant (.str "cells") j p2) := by exact fun _ _ => rfl) :
    PD X K (.Subscript (.Name x px) (.Constant (.str "cells") j p2) pos) (tDGet (tVar i) (tC (.str "cells"))) (dStCells i) := ⟨pe_dget (by have := hr.units; omega) (pe_var hN hv hd hcd) pe_str hs, sim_stCells⟩
theorem s_stRest (i : Nat) (hr : Room n X.A) (h : PD X K e te de) (hN : X.N[i]? = some x := by rfl) (hv : Vis X.env.scope x := by first | exact Or.inl rfl | exact Or.inr (Or.inl rfl) | exact Or.inr (Or.inr rfl)) (hd : (x == ("__debug__" : Str)) = false := by decide) (hcd : (x == ("__classdict__" : Str)) = false := by decide)
    (hs : swapsWith e (some (.Subscript (.Name x px) (.Constant (.str "rest") j p2) p3)) pos.line X.env = pure false := by rfl) : PSD X K (.Assign [.Subscript (.Name x px) (.Constant (.str "rest") j p2) p3] e pos) (sDPut (tVar i) (tC (.str "rest")) te) (dStPut i de) :=
  ⟨ps_dput (by have := hr.units; omega) (pe_var hN hv hd hcd) pe_str h.pe hs, sims_stRest h.sim⟩
theorem q_mixed (i j l : Nat) {x y z : Str} {sts : List Stmt} {u : TS} {d' : DS} {c1 c2 c3 : Nat} {q0 q1 q2 q3 q4 q5 q6 q7 q8 q9 q10 q11 q12 q13 q14 : Pos} {k1 k2 n : Nat} (hr : Room n X.A) (nd : X.N.Nodup) (h' : PSsD X K sts u d') (hN : X.N[i]? = some x := by rfl) (hv : Vis X.env.scope x := by first | exact Or.inl rfl | exact Or.inr (Or.inl rfl) | exact Or.inr (Or.inr rfl)) (hj : X.N[j]? = some y := by rfl) (hl : X.N[l]? = some z := by rfl)
    (hyv : Vis X.env.scope y := by first | exact Or.inl rfl | exact Or.inr (Or.inl rfl) | exact Or.inr (Or.inr rfl)) (hij : j ≠ i := by decide) (hil : l ≠ i := by decide) (hlj : l ≠ j := by decide) (hy : X.env.scope.names.lookup y = some .local := by rfl) (hz : X.env.scope.names.lookup z = some .local := by rfl)
    (hd : (x == ("__debug__" : Str)) = false := by decide) (hcd : (x == ("__classdict__" : Str)) = false := by decide) (hd2 : (y == ("__debug__" : Str)) = false := by decide) (hcd2 : (y == ("__classdict__" : Str)) = false := by decide) (hs : NoSl (.Constant (.str "turn") c1 q1) := by exact fun _ _ => rfl)
    (hc : X.calm = true := by rfl) (hw : swappedStores [.Tuple [.Name y q5, .Name z q6] k1 q7] (.Tuple [.BinOp (.Subscript (.Name x q0) (.Constant (.str "turn") c1 q1) q2) .Add (.Constant (.int 1) c2 q3) q4, .Constant (.int 0) c3 q8] k2 q9) X.env = pure (some [y, z]) := by rfl)
    (hsw : swapsWithSole [.Tuple [.Name y q5, .Name z q6] k1 q7] (.Tuple [.BinOp (.Subscript (.Name x q0) (.Constant (.str "turn") c1 q1) q2) .Add (.Constant (.int 1) c2 q3) q4, .Constant (.int 0) c3 q8] k2 q9) q10.line X.env = pure false := by rfl)
    (h1 : starEach (.BinOp (.Subscript (.Name x q0) (.Constant (.str "turn") c1 q1) q2) .Add (.Constant (.int 1) c2 q3) q4 :: [.Constant (.int 0) c3 q8]) X.env = (false, eval (.BinOp (.Subscript (.Name x q0) (.Constant (.str "turn") c1 q1) q2) .Add (.Constant (.int 1) c2 q3) q4) X.env) :: starEach [.Constant (.int 0) c3 q8] X.env := by rfl)
    (h2 : starEach (.Constant (.int 0) c3 q8 :: []) X.env = (false, eval (.Constant (.int 0) c3 q8) X.env) :: starEach [] X.env := by rfl) {c4 : Nat} {q15 : Pos}
    (hs2 : swapsWith (.Name y q11) (some (.Subscript (.Name x q12) (.Constant (.str "turn") c4 q13) q14)) q15.line X.env = pure false := by rfl) (hK : X.K = K := by rfl) :
    PSsD X K (.Assign [.Tuple [.Name y q5, .Name z q6] k1 q7] (.Tuple [.BinOp (.Subscript (.Name x q0) (.Constant (.str "turn") c1 q1) q2) .Add (.Constant (.int 1) c2 q3) q4, .Constant (.int 0) c3 q8] k2 q9) q10 :: .Assign [.Subscript (.Name x q12) (.Constant (.str "turn") c4 q13) q14] (.Name y q11) q15 :: sts)
      (tSeq (tPar j l (tCons (tOp (rAddA K) (tDGet (tVar i) (tC (.str "turn"))) (tC (.int 1))) (tCons (tC (.int 0)) tNil))) (tSeq (sDPut (tVar i) (tC (.str "turn")) (tVar j)) u)) (dSeq (dMixed i j l) d') := by
  subst hK
  have u1 : X.A.units + 1 < cLine := by have := hr.units; omega
  have et : ∀ a b : TS, tSeq a (tSeq b u) = tSeq (tSeq a b) u := fun a b => rfl
  refine ⟨pss_cons (ps_par hc nd hj hl (Ne.symm hlj) hy hz (L2.pa_cons (pe_op op_addA (pe_dget u1 (pe_var hN hv hd hcd) pe_str hs) pe_int) (L2.pa_cons pe_int L2.pa_nil h2) h1) hw hsw) (pss_cons (ps_dput u1 (pe_var hN hv hd hcd) pe_str (pe_var hj hyv hd2 hcd2) hs2) h'.ps), ?_⟩
  rw [et]
  exact sims_seq (sims_mixed hij hil hlj) h'.sim
abbrev eGreat (x : Str) (px p2 p3 : Pos) (j : Nat) : Expr := .Subscript (.Name x px) (.Constant (.str "great") j p2) p3
/-- state["great"].pop(0) if state["great"] != [] else f(state) -/
theorem pd_stNext (i : Nat) {c0 : Nat} {f : Str} {k m : Nat} {φ : List PyData → (PyData → Prop) → Prop} {q1 q2 q3 q4 q5 q6 q7 q8 q9 q10 q11 q12 q13 q14 : Pos} {j1 j2 j3 : Nat} (hφ : ∀ P : PyData → Prop, (∀ t : Int, 0 ≤ t → P (.int t)) → φ [] P) (cf : Fn X.prog X.w X.K X.mg X.base k f (spS K φ c0)) (hr : Room m X.A) (hN : X.N[i]? = some x := by rfl) (hv : Vis X.env.scope x := by first | exact Or.inl rfl | exact Or.inr (Or.inl rfl) | exact Or.inr (Or.inr rfl))
    (hk : k ≤ m := by decide) (hg : Gl X f := by rfl) (hd : (x == ("__debug__" : Str)) = false := by decide) (hcd : (x == ("__classdict__" : Str)) = false := by decide) (hdb : (f == ("__debug__" : Str)) = false := by decide) (hs : NoSl (.Constant (.str "great") j1 q2) := by exact fun _ _ => rfl) (hs2 : NoSl (.Constant (.str "great") j2 q5) := by exact fun _ _ => rfl)
    (he0 : starEach (.Constant (.int 0) j3 q8 :: []) X.env = (false, eval (.Constant (.int 0) j3 q8) X.env) :: starEach [] X.env := by rfl) (hfew : ((((backTo q9 (starEach [.Constant (.int 0) j3 q8] X.env)).all fun x => !x.1) && (backToKw q9 (keywordEach [] X.env)).all fun x => x.1.isSome) && decide ([Expr.Constant (.int 0) j3 q8].length + ([] : List Keyword).length + (if ([] : List Keyword).isEmpty then 0 else 1) < 30)) = true := by rfl)
    (hplain : (backTo q9 (starEach [] X.env)).any (·.1) = false := by rfl) (hbase : attributeBase (eGreat x q4 q5 q6 j2) "pop" X.env (eval (eGreat x q4 q5 q6 j2) X.env) = eval (eGreat x q4 q5 q6 j2) X.env := by rfl) (hline : (q7.endLine == q9.line) = true := by rfl)
    (he : starEach (.Name x q13 :: []) X.env = (false, eval (.Name x q13) X.env) :: starEach [] X.env := by rfl) (hpl : (backTo q14 (starEach [] X.env)).any (·.1) = false := by rfl) (hm : behindInMarks .NotEq (.List [] q11) = false := by first | exact nomark _ | rfl) (hK : X.K = K := by rfl) :
    PD X K (.IfExp (.Compare (eGreat x q1 q2 q3 j1) [.NotEq] [.List [] q11] q10) (.Call (.Attribute (eGreat x q4 q5 q6 j2) "pop" q7) [.Constant (.int 0) j3 q8] [] q9) (.Call (.Name f q12) [.Name x q13] [] q14) pos) (tStNext K φ c0 i) (dStNext i c0) := by
  subst hK
  obtain ⟨fa, fd, ps, F, hmf, kp, bb⟩ := cf.ex
  have u : X.A.units + 1 < cLine := by have := hr.units; omega
  refine ⟨pe_ifExp (pt_cmpR (op_neD hr.units) (pe_dget u (pe_var hN hv hd hcd) pe_str hs) (pe_lst L2.pa_nil) hm) ?_ ?_, sim_stNext hφ⟩
  · exact pe_bm PySem.F.plainAttrs_list PySem.F.slot_list_pop PySem.F.type_list_pop (mt_popAt) (pe_dget u (pe_var hN hv hd hcd) pe_str hs2) (L2.pa_cons pe_int L2.pa_nil he0) (hfew := hfew) (hs := he0) (hplain := hplain) (hbase := hbase) (hline := hline)
  · exact pe_call F (hr.mono hk) hg hmf kp bb .nil L2.pass0 (L2.pa_cons (pe_var hN hv hd hcd) L2.pa_nil he) hdb he hpl
/-- found.append(left.pop(e)) -/
theorem s_appPop (j i : Nat) {y z : Str} {q1 q2 q3 q4 q5 q6 : Pos} (h : PD X K e te de) (hj : X.N[j]? = some y := by rfl) (hvj : Vis X.env.scope y := by first | exact Or.inl rfl | exact Or.inr (Or.inl rfl) | exact Or.inr (Or.inr rfl)) (hi : X.N[i]? = some z := by rfl) (hvi : Vis X.env.scope z := by first | exact Or.inl rfl | exact Or.inr (Or.inl rfl) | exact Or.inr (Or.inr rfl)) (hij : i ≠ j := by decide)
    (hd : (y == ("__debug__" : Str)) = false := by decide) (hcd : (y == ("__classdict__" : Str)) = false := by decide) (hd2 : (z == ("__debug__" : Str)) = false := by decide) (hcd2 : (z == ("__classdict__" : Str)) = false := by decide)
    (he : starEach (e :: []) X.env = (false, eval e X.env) :: starEach [] X.env := by rfl) (hfew : ((((backTo q4 (starEach [e] X.env)).all fun x => !x.1) && (backToKw q4 (keywordEach [] X.env)).all fun x => x.1.isSome) && decide ([e].length + ([] : List Keyword).length + (if ([] : List Keyword).isEmpty then 0 else 1) < 30)) = true := by rfl)
    (hplain : (backTo q4 (starEach [] X.env)).any (·.1) = false := by rfl) (hbase : attributeBase (.Name z q2) "pop" X.env (eval (.Name z q2) X.env) = eval (.Name z q2) X.env := by rfl) (hline : (q3.endLine == q4.line) = true := by rfl)
    (he2 : starEach (.Call (.Attribute (.Name z q2) "pop" q3) [e] [] q4 :: []) X.env = (false, eval (.Call (.Attribute (.Name z q2) "pop" q3) [e] [] q4) X.env) :: starEach [] X.env := by rfl) (hfew2 : ((((backTo q6 (starEach [.Call (.Attribute (.Name z q2) "pop" q3) [e] [] q4] X.env)).all fun x => !x.1) && (backToKw q6 (keywordEach [] X.env)).all fun x => x.1.isSome) && decide ([Expr.Call (.Attribute (.Name z q2) "pop" q3) [e] [] q4].length + ([] : List Keyword).length + (if ([] : List Keyword).isEmpty then 0 else 1) < 30)) = true := by rfl)
    (hplain2 : (backTo q6 (starEach [] X.env)).any (·.1) = false := by rfl) (hbase2 : attributeBase (.Name y q1) "append" X.env (eval (.Name y q1) X.env) = eval (.Name y q1) X.env := by rfl) (hline2 : (q5.endLine == q6.line) = true := by rfl)
    (hs : swapsWith (.Call (.Attribute (.Name y q1) "append" q5) [.Call (.Attribute (.Name z q2) "pop" q3) [e] [] q4] [] q6) none pos.line X.env = pure false := by rfl) (hK : X.K = K := by rfl) :
    PSD X K (.Expr (.Call (.Attribute (.Name y q1) "append" q5) [.Call (.Attribute (.Name z q2) "pop" q3) [e] [] q4] [] q6) pos) (tDrop (tBM K "list" rAppend (tVar j) (tCons (tBM K "list" rPopAt (tVar i) (tCons te tNil)) tNil))) (dAppPop j i de) := by
  subst hK
  refine ⟨ps_expr (pe_bm PySem.F.plainAttrs_list PySem.F.slot_list_append PySem.F.type_list_append (mt_append) (pe_var hj hvj hd hcd) (L2.pa_cons (pe_bm PySem.F.plainAttrs_list PySem.F.slot_list_pop PySem.F.type_list_pop (mt_popAt) (pe_var hi hvi hd2 hcd2) (L2.pa_cons h.pe L2.pa_nil he) (hfew := hfew) (hs := he) (hplain := hplain) (hbase := hbase) (hline := hline)) L2.pa_nil he2) (hfew := hfew2) (hs := he2) (hplain := hplain2) (hbase := hbase2) (hline := hline2)) hs, sims_appPop hij h.sim⟩
end
end DL

namespace DL
open PySem PySem.Spec PyProof.Rows L2
open Evl (Ex)
/-! ### the state is made -/
def spB (K : PySem.W.Frag) : Sp := fun vs H Q _ => ∃ (a : Addr) (ns : List Int), vs = [.ref a] ∧ SqL K H a (ns.map V.int) ∧ ns.length ≤ 1000 ∧
  ∀ (p g c : Addr) (gs cs : List Int) (H' : Hp), Ex H H' → H p = none → H g = none → H c = none → p ≠ g → p ≠ c → g ≠ c → H' p = some (stD g c 0 0) → H' g = some (.lst (gs.map V.int)) → H' c = some (.lst (cs.map V.int)) →
    (∀ x ∈ gs, 0 ≤ x) → (∀ x ∈ cs, 0 ≤ x) → gs.length ≤ 1000 → cs.length ≤ 1000 → Q (.ref p) H'
section
variable {X : Cx} {K : PySem.W.Frag} {P : Program} {w : World} {mg : Str → Option Value} {base : Heap} {x qual : Str} {params : Arguments} {scope : Scope} {f : Addr} {fd : FuncData} {k : Nat}
theorem rel_scr {bu : Nat} {N : List Str} {n : Str} {H : Hp} {a : Addr} {ns : List Int} (h : SqL K H a (ns.map V.int)) : Rel K bu (L2.start (n :: N) [.ref a]) H H H (C.scr ns :: startE N.length []) := by
  obtain ⟨_, _, fps, c, nd, hf⟩ := rel_start (K := K) (bu := bu) (G := H) (H := H) (R := H) (N := N) (vs := []) (Ex.refl H) (Ex.refl H) .nil
  have es : L2.start (n :: N) [V.ref a] = some (.ref a) :: L2.start N [] := by
    unfold L2.start
    show some (V.ref a) :: (List.map some [] ++ List.replicate (N.length + 1 - (0 + 1)) none) = _
    rw [Nat.add_sub_add_right]
    rfl
  rw [es]
  exact ⟨Ex.refl H, Ex.refl H, [] :: fps, .cons (c := .scr ns) (fp := []) ⟨rfl, a, rfl, h⟩ c, nd, hf⟩
/-- what the making def does: its list, its display -/
theorem fn_begun {n1 n2 n3 : Str} {st1 : Stmt} {e2 : Expr} {c1 c2 c3 c4 c5 c6 : Nat} {p1' p2' p3' p4' p5 p6 p7 p8 pos : Pos} {dn1 dn2 : DN} (F : FunD K x qual params [st1, .Return (some (.Dict [some (.Constant (.str "great") c1 p1'), some (.Constant (.str "cells") c2 p2'), some (.Constant (.str "rest") c3 p3'), some (.Constant (.str "turn") c4 p4')] [.Name n2 p5, e2, .Constant (.int 0) c5 p6, .Constant (.int 0) c6 p7] p8)) pos] scope [] [] f fd) (S : FnScope [n1, n2, n3] [n1] scope)
    (hbody : ∀ (cdv : Value) (A : Around) (outer : List PySem.Env) (s : Shared) (H : Hp) (E : XK), Room k (A.deeper (envOfC qual scope s.heap.objs.size f cdv)) →
      ∃ t1 tl2, PSD (cxOf L2.CX0 P w K mg base [n1, n2, n3] qual scope f cdv A outer s H E).nox K st1 t1 (dSetN 1 dn1) ∧ PN (cxOf L2.CX0 P w K mg base [n1, n2, n3] qual scope f cdv A outer s H E).nox K e2 tl2 dn2)
    (r1 : ∀ (ns : List Int) (c1 c2 : C) (P : List PyData → Prop), plainC c2 = true → ns.length ≤ 1000 → (∀ gs : List Int, (∀ x ∈ gs, 0 ≤ x) → gs.length ≤ 1000 → P (iL gs)) → dn1 [C.scr ns, c1, c2] P)
    (r2 : ∀ (ns : List Int) (c1 c2 : C) (P : List PyData → Prop), plainC c2 = true → ns.length ≤ 1000 → (∀ gs : List Int, (∀ x ∈ gs, 0 ≤ x) → gs.length ≤ 1000 → P (iL gs)) → dn2 [C.scr ns, c1, c2] P)
    (hv : Vis scope n2 := by first | exact Or.inl rfl | exact Or.inr (Or.inl rfl) | exact Or.inr (Or.inr rfl)) (hd : (n2 == ("__debug__" : Str)) = false := by decide) (hcd : (n2 == ("__classdict__" : Str)) = false := by decide) :
    FnOk P w K mg base L2.CX0 (k + 1) f fd [n1] (spB K) := by
  refine F.ok S (fun vs H Q E h => ?_) (fun cdv A outer s H vs Q E hr h => ?_)
  · obtain ⟨a, ns, rfl, _⟩ := h
    rfl
  · obtain ⟨a, ns, rfl, hs, hl, fin⟩ := h
    obtain ⟨t1, tl2, p1, p2⟩ := hbody cdv A outer s H E hr
    have pd : PE (cxOf L2.CX0 P w K mg base [n1, n2, n3] qual scope f cdv A outer s H E).nox (.Dict [some (.Constant (.str "great") c1 p1'), some (.Constant (.str "cells") c2 p2'), some (.Constant (.str "rest") c3 p3'), some (.Constant (.str "turn") c4 p4')] [.Name n2 p5, e2, .Constant (.int 0) c5 p6, .Constant (.int 0) c6 p7] p8) (tDisp [(tC (.str "great"), tVar 1), (tC (.str "cells"), tl2), (tC (.str "rest"), tC (.int 0)), (tC (.str "turn"), tC (.int 0))]) := pe_disp (pos := p8) (pps_cons (pe_str (pos := p1')) (pe_var (i := 1) (pos := p5) rfl hv hd hcd) (pps_cons (pe_str (pos := p2')) p2.pe (pps_cons (pe_str (pos := p3')) (pe_int (pos := p6)) (pps_cons (pe_str (pos := p4')) (pe_int (pos := p7)) pps_nil)))) rfl rfl (by simp) (Nat.le_of_ble_eq_true rfl)
    refine ⟨_, PSs.nox (pss_cons p1.ps (pss_one (ps_ret pd))), ?_⟩
    have r0 : Rel K (dn2.cost + dn1.cost) (L2.start [n1, n2, n3] [.ref a]) H H H [C.scr ns, .no, .no] := rel_scr hs
    refine p1.sim dn2.cost { nx := fun E => ∃ gs : List Int, (∀ x ∈ gs, 0 ≤ x) ∧ gs.length ≤ 1000 ∧ E = [C.scr ns, .l (iL gs), .no], rt := fun _ _ => False } _ _ H H H [C.scr ns, .no, .no] r0 (r1 ns _ _ _ rfl hl fun gs h1 h2 => ⟨gs, h1, h2, rfl⟩) ⟨fun σ1 H1 G1 E1 l1 rb hn => ?_, fun _ _ _ _ _ _ _ _ _ h => h.elim, fun _ _ _ _ _ _ h => h.elim, fun _ _ _ _ _ _ h => h.elim, fun _ _ _ _ _ _ _ _ _ _ h => h.elim⟩
    obtain ⟨gs, hg0, hg1, rfl⟩ := hn
    obtain ⟨g, us, hσ, hG, hv⟩ := rb.lst (i := 1) (xs := iL gs) rfl
    intro p hp
    have rc := rb.hold (o := .dK []) hp
    refine ⟨.ref g, hσ, ?_⟩
    refine p2.sim 0 σ1 _ G1 _ _ _ (fun xs => ∃ cs : List Int, xs = iL cs ∧ (∀ x ∈ cs, 0 ≤ x) ∧ cs.length ≤ 1000) (rc.dn (by omega)) (r2 ns _ _ _ rfl hl fun gs h1 h2 => ⟨gs, rfl, h1, h2⟩) fun c us ds H2 G2 l2 hrc hgc rd hv2 hp2 => ?_
    obtain ⟨cs, rfl, hc0, hc1⟩ := hp2
    have eus : us = cs.map V.int := hv2.toInts
    subst eus
    have hpc : c ≠ p := fun z => by rw [z, upd_same] at hrc; cases hrc
    have hcH : H c = none := by
      rw [upd_ne hpc] at hrc
      exact hrc
    have hp2 : H2 p = some (.dK []) := rd.rh p _ (by rw [upd_ne (Ne.symm hpc), upd_same])
    obtain ⟨a', us', e1, e2, e3⟩ := rd.lst (i := 1) (xs := iL gs) rfl
    rw [hσ] at e1
    have eg : a' = g := by
      injection e1 with e1
      injection e1 with e1
      injection e1 with e1
      exact e1.symm
    subst eg
    have hcg : H2 c = some (.lst (cs.map V.int)) := rd.rh c _ upd_same
    have eus : us' = gs.map V.int := e3.toInts
    subst eus
    obtain ⟨fps, cc, nd, hf⟩ := rd.fps
    obtain ⟨v, fp, q1, q2, a2, us2, q3, q4, q5, q6⟩ := cc.get (i := 1) (c := .l (iL gs)) rfl
    have e4 := hf a2 (mem_flat q2 (by rw [q3]; simp))
    rw [q4] at q1
    rw [hσ] at q1
    have ea : a' = a2 := by
      injection q1 with q1
      injection q1 with q1
      injection q1
    subst ea
    have hcg2 : a' ≠ c := fun z => by
      have := e4.2
      rw [z, upd_same] at this
      cases this
    have hp1 : p ≠ a' := fun z => by
      have := e4.2
      rw [upd_ne hcg2, ← z, upd_same] at this
      cases this
    have hrg : H a' = none := by
      have := e4.2
      rw [upd_ne hcg2, upd_ne (Ne.symm hp1)] at this
      exact this
    have hpp : H p = none := by
      cases q : H p with
      | none => rfl
      | some o =>
        have := rb.rh p o q
        rw [hp] at this
        cases this
    refine ⟨hp2, [(.inr "great", .ref a'), (.inr "cells", .ref c), (.inr "rest", .int 0), (.inr "turn", .int 0)], rfl, (by decide : 4 ≤ 15), ?_⟩
    refine fin p a' c gs cs _ (fun b o hb => ?_) hpp hrg hcH hp1 (Ne.symm hpc) hcg2 (by rw [upd_same]; rfl) (by rw [upd_ne (Ne.symm hp1)]; exact e2) (by rw [upd_ne hpc]; exact hcg) hg0 hc0 hg1 hc1
    have nb : b ≠ p := fun z => by rw [z, hpp] at hb; cases hb
    have nc : b ≠ c := fun z => by rw [z, hcH] at hb; cases hb
    rw [upd_ne nb]
    exact rd.rh b o (by rw [upd_ne nc, upd_ne nb]; exact hb)
/-- state = _law_begun(script) -/
def dBegun (i j : Nat) : DS := ⟨fun DD E => match E[j]? with
  | some (.scr ns) => ns.length ≤ 1000 ∧ ∀ a, DD.nx (E.set i (.s a))
  | some (.w ns _ _) => ns.length ≤ 1000 ∧ ∀ a, DD.nx (E.set i (.s a))
  | _ => False, 0⟩
theorem begun_core {i j bu : Nat} (hbu : bu ≤ 2 ^ 46) (DD : DEnds) (D : Ends) (σ : L2.St) (H G R : Hp) (E : Env) (r : Rel K bu σ H G R E) {a : Addr} {ns : List Int} (h1 : σ[j]? = some (some (.ref a))) (h2 : SqL K H a (ns.map V.int)) (hd : ns.length ≤ 1000 ∧ ∀ a, DD.nx (E.set i (.s a))) (k : EndsOk K bu G R DD D) : tAsg (tCall (spB K) [] L2.E0 (tCons (tVar j) tNil)) (gName i) D σ H := by
  suffices goal : spB K [.ref a] H (fun x H1 => gName i x σ H1 D.nx) L2.E0 from ⟨_, h1, goal⟩
  refine ⟨a, ns, rfl, h2, hd.1, fun p g c gs cs H' ex hp hg hc n1 n2 n3 e1 e2 e3 g0 c0 g1 c1 => ?_⟩
  have gp := ex_none r.gh hp
  have gg := ex_none r.gh hg
  have gc := ex_none r.gh hc
  have rp := ex_none r.rh hp
  have rg := ex_none r.rh hg
  have rc := ex_none r.rh hc
  obtain ⟨fps, cc, nd, hf⟩ := r.fps
  have eg : Ex G (upd G c (.lst (cs.map V.int))) := Ex.new gc
  have there : ∀ b ∈ fps.flatten, H b ≠ none := fun b hb => by
    obtain ⟨o, e⟩ := cc.there b hb
    rw [e]
    intro z
    cases z
  refine k.nx (σ.set i (some (.ref p))) H' (upd G c (.lst (cs.map V.int))) (E.set i (.s p)) (Le.new gc rc) ?_ (hd.2 p)
  have cm : Cells K bu (upd G c (.lst (cs.map V.int))) H' σ E fps := cc.mono eg fun b hb => by
    obtain ⟨o, e⟩ := cc.there b hb
    rw [e, ex b o e]
  refine ⟨fun b o hb => ?_, r.rh.trans ex, fps.set i [p, g], cm.set (fp := [p, g]) (v := some (.ref p)) (c := .s p) ⟨g, rfl, rfl, c, gs, cs, 0, 0, e1, e2, upd_same, g0, c0, Int.le_refl 0, Int.le_refl 0, g1, c1, by omega⟩ i, nodup_set nd (by simp [n1]) fun b hb hb2 => ?_, fun b hb => ?_⟩
  · by_cases z : b = c
    · rw [z] at hb ⊢
      rw [upd_same] at hb
      rw [e3, hb]
    · rw [upd_ne z] at hb
      exact ex b o (r.gh b o hb)
  · have q := there b ((flat_set_sub fps i).subset hb2)
    rcases List.mem_cons.mp hb with rfl | hb
    · exact q hp
    · rw [List.mem_singleton.mp hb] at q
      exact q hg
  · rcases flat_set_mem hb with hb | hb
    · rcases List.mem_cons.mp hb with rfl | hb
      · exact ⟨by rw [upd_ne n2]; exact gp, rp⟩
      · rw [List.mem_singleton.mp hb]
        exact ⟨by rw [upd_ne n3]; exact gg, rg⟩
    · have q := hf b ((flat_set_sub fps i).subset hb)
      have q2 := there b ((flat_set_sub fps i).subset hb)
      exact ⟨by rw [upd_ne (fun z => q2 (by rw [z]; exact hc))]; exact q.1, q.2⟩
theorem sims_begun {i j bu : Nat} (hbu : bu ≤ 2 ^ 46) (DD : DEnds) (D : Ends) (σ : L2.St) (H G R : Hp) (E : Env) (r : Rel K bu σ H G R E) (hd : dBegun i j DD E) (k : EndsOk K bu G R DD D) : tAsg (tCall (spB K) [] L2.E0 (tCons (tVar j) tNil)) (gName i) D σ H := by
  simp only [dBegun] at hd
  split at hd
  · rename_i ns e
    obtain ⟨a, h1, h2⟩ := r.script e
    exact begun_core hbu DD D σ H G R E r h1 h2 hd k
  · rename_i ns _ _ e
    obtain ⟨a, h1, h2⟩ := r.scriptW e
    exact begun_core hbu DD D σ H G R E r h1 h2 hd k
  · exact hd.elim
theorem s_begun (i j : Nat) {y z g : Str} {m k : Nat} {p px p2 pos : Pos} (cb : Fn X.prog X.w X.K X.mg X.base k g (spB X.K)) (hr : Room m X.A) (nd : X.N.Nodup) (hi : X.N[i]? = some y := by rfl) (hx : Loc X.env.scope y := by first | exact Or.inl rfl | exact Or.inr rfl) (hj : X.N[j]? = some z := by rfl) (hv : Vis X.env.scope z := by first | exact Or.inl rfl | exact Or.inr (Or.inl rfl) | exact Or.inr (Or.inr rfl))
    (hk : k ≤ m := by decide) (hg : Gl X g := by rfl) (hd : (z == ("__debug__" : Str)) = false := by decide) (hcd : (z == ("__classdict__" : Str)) = false := by decide) (hdb : (g == ("__debug__" : Str)) = false := by decide) (he : starEach (.Name z px :: []) X.env = (false, eval (.Name z px) X.env) :: starEach [] X.env := by rfl) (hpl : (backTo p2 (starEach [] X.env)).any (·.1) = false := by rfl)
    {pos' : Pos} (hs : swapsWith (.Call (.Name g p) [.Name z px] [] p2) (some (.Name y pos')) pos.line X.env = pure false := by rfl) (hf : X.fn y = true ∨ X.env.scope.names.lookup y = some .local := by first | exact .inl rfl | exact .inr rfl) :
    PS X (.Assign [.Name y pos'] (.Call (.Name g p) [.Name z px] [] p2) pos) (tAsg (tCall (spB X.K) [] L2.E0 (tCons (tVar j) tNil)) (gName i)) := by
  obtain ⟨fa, fd, ps, F, hmf, kp, bb⟩ := cb.ex
  exact ps_set nd hi hx (pe_call F (hr.mono hk) hg hmf kp bb .nil L2.pass0 (L2.pa_cons (pe_var hj hv hd hcd) L2.pa_nil he) hdb he hpl) hs hf
end
/-! the law itself -/
def spLaw (K : PySem.W.Frag) : Sp := fun vs H Q _ => ∃ (a : Addr) (ns : List Int), vs = [.ref a] ∧ SqL K H a (ns.map V.int) ∧ ns.length ≤ 1000 ∧ ∀ H', Q (.bl true) H'
section
variable {K : PySem.W.Frag} {P : Program} {w : World} {mg : Str → Option Value} {base : Heap} {x qual : Str} {params : Arguments} {body : List Stmt} {scope : Scope} {f : Addr} {fd : FuncData} {k : Nat} {N : List Str} {n : Str}
theorem fn_law {i : Nat} {st1 : Stmt} {sts : List Stmt} (F : FunD K x qual params (st1 :: sts) scope [] [] f fd) (S : FnScope (n :: N) [n] scope)
    (hbody : ∀ (cdv : Value) (A : Around) (outer : List PySem.Env) (s : Shared) (H : Hp) (E : XK), Room k (A.deeper (envOfC qual scope s.heap.objs.size f cdv)) →
      ∃ t d, PS (cxOf L2.CX0 P w K mg base (n :: N) qual scope f cdv A outer s H E).nox st1 (tAsg (tCall (spB K) [] L2.E0 (tCons (tVar 0) tNil)) (gName i)) ∧ PSsD (cxOf L2.CX0 P w K mg base (n :: N) qual scope f cdv A outer s H E).nox K sts t d ∧ d.cost ≤ 2 ^ 46 ∧
        ∀ (ns : List Int) (a : Addr), ns.length ≤ 1000 → d { nx := fun _ => False, rt := fun x _ => x = .bool true } ((C.scr ns :: startE N.length []).set i (.s a))) :
    FnOk P w K mg base L2.CX0 (k + 1) f fd [n] (spLaw K) := by
  refine F.ok S (fun vs H Q E h => ?_) (fun cdv A outer s H vs Q E hr h => ?_)
  · obtain ⟨a, ns, rfl, _⟩ := h
    rfl
  · obtain ⟨a, ns, rfl, hs, hl, fin⟩ := h
    obtain ⟨t, d, hp1, hps, hcost, hread⟩ := hbody cdv A outer s H E hr
    refine ⟨_, PSs.nox (pss_cons hp1 hps.ps), ?_⟩
    refine sims_begun (bu := 0 + d.cost) (by omega) { nx := fun E => d { nx := fun _ => False, rt := fun x _ => x = .bool true } E, rt := fun _ _ => False } _ _ H H H _ (rel_scr hs) ⟨hl, fun a => hread ns a hl⟩ ⟨fun σ' H' G' E' l r hn => ?_, fun _ _ _ _ _ _ _ _ _ h => h.elim, fun _ _ _ _ _ _ h => h.elim, fun _ _ _ _ _ _ h => h.elim, fun _ _ _ _ _ _ _ _ _ _ h => h.elim⟩
    refine hps.sim 0 _ _ σ' H' G' H E' r hn ⟨fun _ _ _ _ _ _ h => h.elim, fun v d' σ' H' G' E' l r hv' hn => ?_, fun _ _ _ _ _ _ h => h.elim, fun _ _ _ _ _ _ h => h.elim, fun _ _ _ _ _ _ _ _ _ _ h => h.elim⟩
    have hn' : d' = .bool true := hn
    subst hn'
    rw [hv'.bool_inv]
    exact fin H'
end
end DL

/-! what the laws' own helpers are worth -/
namespace DL
open PySem PySem.Spec PyProof.Rows L2
abbrev Ph := List PyData → (PyData → Prop) → Prop
abbrev endS (a : Addr) (Q : PyData → Prop) : DEnds := { nx := fun E => E[0]? = some (C.s a) ∧ Q .none, rt := fun x E => E[0]? = some (C.s a) ∧ Q x }
theorem line_big {n : Nat} (h : n ≤ 1000) : n < sizeLine := by rw [sizeLine_eq]; omega
theorem log_small {i j : Int} (h : 0 < j) (h2 : j < 2 ^ 64) : CDivW i j := ⟨h, by
  have : j.natAbs < 2 ^ 64 := by omega
  have := (Nat.log2_lt (by omega)).mpr this
  omega⟩
theorem atI0 {x : PyData} {xs : List PyData} : atI (x :: xs) 0 = some x := atI_nat (i := 0) rfl
theorem atI1 {x y : PyData} {xs : List PyData} : atI (x :: y :: xs) 1 = some y := atI_nat (i := 1) rfl
theorem atI2 {x y z : PyData} {xs : List PyData} : atI (x :: y :: z :: xs) 2 = some z := atI_nat (i := 2) rfl
def phi_law_mixed : Ph := fun ds P => ds = [] ∧ ∀ r : Int, 0 ≤ r → P (.int r)
theorem mixed_all : ∀ P : PyData → Prop, (∀ t : Int, 0 ≤ t → P (.int t)) → phi_law_mixed [] P := fun P h => ⟨rfl, h⟩
theorem len_law_mixed : ∀ ds Q, phi_law_mixed ds Q → ds.length = 0 := by rintro ds Q ⟨rfl, _⟩; rfl
/-! _law_mixed(state): state=0 turn=1 found=2 prime=3 blend=4 cell=5 -/
abbrev N_law_mixed : List Str := ["state", "turn", "found", "prime", "blend", "cell"]
def d_law_mixed : DS := (dSeq (dMixed 0 1 2)
  (dSeq (dFor (dSeqI (dFrz (dCons (dC (.int 2147483629)) (dCons (dC (.int 2147483587)) (dCons (dC (.int 2147483579)) (dCons (dC (.int 2147483563)) dNil)))))) (dgName 3)
  (dSeq (dSet 4 (dOp fAdd (dOp fMul (dC (.int 69621)) (dVar 1)) (dOp fFdiv (dVar 3) (dC (.int 41)))))
  (dSeq (dFor (dSeqI (dStCells 0)) (dgName 5)
  (dSet 4 (dOp fMod (dCB fIntOf (dCons (dOp fAdd (dOp fAdd (dOp fMul (dVar 4) (dC (.int 48271))) (dVar 5)) (dVar 1)) dNil)) (dVar 3))))
  (dSet 2 (dOp fAdd (dOp fMul (dVar 2) (dC (.int 2147483659))) (dOp fMod (dCB fIntOf (dCons (dOp fPow (dVar 4) (dC (.int 5))) dNil)) (dVar 3)))))))
  (dRet (dVar 2))))
abbrev k_law_mixed : Nat := d_law_mixed.cost
theorem rd_law_mixed : ∀ a ds Q, phi_law_mixed ds Q → d_law_mixed (endS a Q) (startS a N_law_mixed.length ds) := by
  rintro a ds Q ⟨rfl, h⟩
  show d_law_mixed _ [C.s a, .no, .no, .no, .no, .no]
  simp only [d_law_mixed, dStInt, dStTurn, dStNext, dMixed, dWhileS, dForS, dLcS, dStCells, dStPut, dAppPop, dBegun, dSeq, dCut, dNext, dFrzS, dSet, dSetN, dPar, dParN, dParM, dParNN, dDrop, dRet, dRetN, dIfS, dNever, dBreak, dCont, dAug, dApp, dPutL, dAugL, dIxO, dCBO, dOpO, dOpO2, dTupO, dWhile, dgName, dgNil, dgCons, dgTup, dAsg, dSeqI, dScrI, dRng1, dRng2, dRngN, dZip, dEnum, dFor, dLc, dLc2, dYes, dFrz, dVar, dC, dOp, dOpN, dUn, dChain, dNil, dCons, dTup, dCB, dCBN, dCall, dB, dAnd, dOr, dNot, dAndV, dOrV, dNotV, dIf, dNone, dSome, dSl, dIsi, dIsi2, dListR1, dListR2, dLenScr, dCallS, fLt, fLe, fGt, fGe, fSub, fFdiv, fMod, fPow, fIMul, fInt, fInt0, fCmp, fEq, fAdd, fMul, fRepN, fCatN, fNeg, fIs, fIx, fSl, fLen, fAbs, fIntOf, fTwo, fTupOf, fListOf, fIpAdd, DL.seen, ty_int_non, ty_int_bool, ty_int_int, ty_int_str, ty_int_list, ty_int_tuple, ty_bool_non, ty_bool_bool, ty_bool_int, ty_bool_str, ty_bool_list, ty_bool_tuple, ty_str_non, ty_str_bool, ty_str_int, ty_str_str, ty_str_list, ty_str_tuple, ty_list_non, ty_list_bool, ty_list_int, ty_list_str, ty_list_list, ty_list_tuple, ty_tuple_non, ty_tuple_bool, ty_tuple_int, ty_tuple_str, ty_tuple_list, ty_tuple_tuple, ty_dict_non, ty_dict_bool, ty_dict_int, ty_dict_str, ty_dict_list, ty_dict_tuple, Bool.not_false, Bool.not_true, List.getElem?_cons_zero, List.getElem?_cons_succ, List.set_cons_zero, List.set_cons_succ, br_t, br_f, wipeE, ↓reduceIte]
  refine ⟨(by decide : 1 < 6), fun t0 ht0 ht1 => ?_⟩
  refine ⟨fun i E => ∃ (f : Int) (c3 c4 c5 : C), 0 ≤ f ∧ E = [C.s a, C.d (.int t0), C.d (.int f), c3, c4, c5], ⟨0, _, _, _, by omega, rfl⟩, ?_, ?_⟩
  · rintro i x E hx ⟨f, c3, c4, c5, hf, rfl⟩
    have hp : ∃ p : Int, x = .int p ∧ 0 < p ∧ p < 2 ^ 32 := by
      match i, hx with
      | 0, hx => exact ⟨_, (Option.some.inj hx).symm, by decide, by decide⟩
      | 1, hx => exact ⟨_, (Option.some.inj hx).symm, by decide, by decide⟩
      | 2, hx => exact ⟨_, (Option.some.inj hx).symm, by decide, by decide⟩
      | 3, hx => exact ⟨_, (Option.some.inj hx).symm, by decide, by decide⟩
    obtain ⟨p, rfl, p0, p1⟩ := hp
    simp only [dStInt, dStTurn, dStNext, dMixed, dWhileS, dForS, dLcS, dStCells, dStPut, dAppPop, dBegun, dSeq, dCut, dNext, dFrzS, dSet, dSetN, dPar, dParN, dParM, dParNN, dDrop, dRet, dRetN, dIfS, dNever, dBreak, dCont, dAug, dApp, dPutL, dAugL, dIxO, dCBO, dOpO, dOpO2, dTupO, dWhile, dgName, dgNil, dgCons, dgTup, dAsg, dSeqI, dScrI, dRng1, dRng2, dRngN, dZip, dEnum, dFor, dLc, dLc2, dYes, dFrz, dVar, dC, dOp, dOpN, dUn, dChain, dNil, dCons, dTup, dCB, dCBN, dCall, dB, dAnd, dOr, dNot, dAndV, dOrV, dNotV, dIf, dNone, dSome, dSl, dIsi, dIsi2, dListR1, dListR2, dLenScr, dCallS, fLt, fLe, fGt, fGe, fSub, fFdiv, fMod, fPow, fIMul, fInt, fInt0, fCmp, fEq, fAdd, fMul, fRepN, fCatN, fNeg, fIs, fIx, fSl, fLen, fAbs, fIntOf, fTwo, fTupOf, fListOf, fIpAdd, DL.seen, ty_int_non, ty_int_bool, ty_int_int, ty_int_str, ty_int_list, ty_int_tuple, ty_bool_non, ty_bool_bool, ty_bool_int, ty_bool_str, ty_bool_list, ty_bool_tuple, ty_str_non, ty_str_bool, ty_str_int, ty_str_str, ty_str_list, ty_str_tuple, ty_list_non, ty_list_bool, ty_list_int, ty_list_str, ty_list_list, ty_list_tuple, ty_tuple_non, ty_tuple_bool, ty_tuple_int, ty_tuple_str, ty_tuple_list, ty_tuple_tuple, ty_dict_non, ty_dict_bool, ty_dict_int, ty_dict_str, ty_dict_list, ty_dict_tuple, Bool.not_false, Bool.not_true, List.getElem?_cons_zero, List.getElem?_cons_succ, List.set_cons_zero, List.set_cons_succ, br_t, br_f, wipeE, ↓reduceIte]
    refine ⟨.inl (.inl ⟨by omega, by omega⟩), log_small (by omega) (by omega), ?_⟩
    intro cs hcs hcl
    refine ⟨fun j E => ∃ (b : Int) (c5 : C), b.natAbs < 2 ^ 64 ∧ E = [C.s a, C.d (.int t0), C.d (.int f), C.d (.int p), C.d (.int b), c5], ⟨_, _, by have h1 := Int.ediv_nonneg (show 0 ≤ p by omega) (show (0 : Int) ≤ 41 by omega); have h2 := Int.ediv_le_self 41 (show 0 ≤ p by omega); omega, rfl⟩, ?_, ?_⟩
    · rintro j y E hy ⟨b, c5, _, rfl⟩
      obtain ⟨c, hc, rfl⟩ := iL_at hy
      simp only [dStInt, dStTurn, dStNext, dMixed, dWhileS, dForS, dLcS, dStCells, dStPut, dAppPop, dBegun, dSeq, dCut, dNext, dFrzS, dSet, dSetN, dPar, dParN, dParM, dParNN, dDrop, dRet, dRetN, dIfS, dNever, dBreak, dCont, dAug, dApp, dPutL, dAugL, dIxO, dCBO, dOpO, dOpO2, dTupO, dWhile, dgName, dgNil, dgCons, dgTup, dAsg, dSeqI, dScrI, dRng1, dRng2, dRngN, dZip, dEnum, dFor, dLc, dLc2, dYes, dFrz, dVar, dC, dOp, dOpN, dUn, dChain, dNil, dCons, dTup, dCB, dCBN, dCall, dB, dAnd, dOr, dNot, dAndV, dOrV, dNotV, dIf, dNone, dSome, dSl, dIsi, dIsi2, dListR1, dListR2, dLenScr, dCallS, fLt, fLe, fGt, fGe, fSub, fFdiv, fMod, fPow, fIMul, fInt, fInt0, fCmp, fEq, fAdd, fMul, fRepN, fCatN, fNeg, fIs, fIx, fSl, fLen, fAbs, fIntOf, fTwo, fTupOf, fListOf, fIpAdd, DL.seen, ty_int_non, ty_int_bool, ty_int_int, ty_int_str, ty_int_list, ty_int_tuple, ty_bool_non, ty_bool_bool, ty_bool_int, ty_bool_str, ty_bool_list, ty_bool_tuple, ty_str_non, ty_str_bool, ty_str_int, ty_str_str, ty_str_list, ty_str_tuple, ty_list_non, ty_list_bool, ty_list_int, ty_list_str, ty_list_list, ty_list_tuple, ty_tuple_non, ty_tuple_bool, ty_tuple_int, ty_tuple_str, ty_tuple_list, ty_tuple_tuple, ty_dict_non, ty_dict_bool, ty_dict_int, ty_dict_str, ty_dict_list, ty_dict_tuple, Bool.not_false, Bool.not_true, List.getElem?_cons_zero, List.getElem?_cons_succ, List.set_cons_zero, List.set_cons_succ, br_t, br_f, wipeE, ↓reduceIte]
      have m0 := Int.emod_nonneg (b * 48271 + c + t0) (show p ≠ 0 by omega)
      have m1 := Int.emod_lt_of_pos (b * 48271 + c + t0) p0
      exact ⟨.inl (.inr ⟨by omega, by omega⟩), p0, _, C.d (.int c), by omega, rfl⟩
    · rintro E ⟨b, c5, hb, rfl⟩
      simp only [dStInt, dStTurn, dStNext, dMixed, dWhileS, dForS, dLcS, dStCells, dStPut, dAppPop, dBegun, dSeq, dCut, dNext, dFrzS, dSet, dSetN, dPar, dParN, dParM, dParNN, dDrop, dRet, dRetN, dIfS, dNever, dBreak, dCont, dAug, dApp, dPutL, dAugL, dIxO, dCBO, dOpO, dOpO2, dTupO, dWhile, dgName, dgNil, dgCons, dgTup, dAsg, dSeqI, dScrI, dRng1, dRng2, dRngN, dZip, dEnum, dFor, dLc, dLc2, dYes, dFrz, dVar, dC, dOp, dOpN, dUn, dChain, dNil, dCons, dTup, dCB, dCBN, dCall, dB, dAnd, dOr, dNot, dAndV, dOrV, dNotV, dIf, dNone, dSome, dSl, dIsi, dIsi2, dListR1, dListR2, dLenScr, dCallS, fLt, fLe, fGt, fGe, fSub, fFdiv, fMod, fPow, fIMul, fInt, fInt0, fCmp, fEq, fAdd, fMul, fRepN, fCatN, fNeg, fIs, fIx, fSl, fLen, fAbs, fIntOf, fTwo, fTupOf, fListOf, fIpAdd, DL.seen, ty_int_non, ty_int_bool, ty_int_int, ty_int_str, ty_int_list, ty_int_tuple, ty_bool_non, ty_bool_bool, ty_bool_int, ty_bool_str, ty_bool_list, ty_bool_tuple, ty_str_non, ty_str_bool, ty_str_int, ty_str_str, ty_str_list, ty_str_tuple, ty_list_non, ty_list_bool, ty_list_int, ty_list_str, ty_list_list, ty_list_tuple, ty_tuple_non, ty_tuple_bool, ty_tuple_int, ty_tuple_str, ty_tuple_list, ty_tuple_tuple, ty_dict_non, ty_dict_bool, ty_dict_int, ty_dict_str, ty_dict_list, ty_dict_tuple, Bool.not_false, Bool.not_true, List.getElem?_cons_zero, List.getElem?_cons_succ, List.set_cons_zero, List.set_cons_succ, br_t, br_f, wipeE, ↓reduceIte]
      have m0 := Int.emod_nonneg (b ^ (5 : Int).toNat) (show p ≠ 0 by omega)
      exact ⟨.inl (.inr ⟨by omega, by omega⟩), ⟨by omega, by omega, hb⟩, p0, _, _, _, _, by omega, rfl⟩
  · rintro E ⟨f, c3, c4, c5, hf, rfl⟩
    simp only [dStInt, dStTurn, dStNext, dMixed, dWhileS, dForS, dLcS, dStCells, dStPut, dAppPop, dBegun, dSeq, dCut, dNext, dFrzS, dSet, dSetN, dPar, dParN, dParM, dParNN, dDrop, dRet, dRetN, dIfS, dNever, dBreak, dCont, dAug, dApp, dPutL, dAugL, dIxO, dCBO, dOpO, dOpO2, dTupO, dWhile, dgName, dgNil, dgCons, dgTup, dAsg, dSeqI, dScrI, dRng1, dRng2, dRngN, dZip, dEnum, dFor, dLc, dLc2, dYes, dFrz, dVar, dC, dOp, dOpN, dUn, dChain, dNil, dCons, dTup, dCB, dCBN, dCall, dB, dAnd, dOr, dNot, dAndV, dOrV, dNotV, dIf, dNone, dSome, dSl, dIsi, dIsi2, dListR1, dListR2, dLenScr, dCallS, fLt, fLe, fGt, fGe, fSub, fFdiv, fMod, fPow, fIMul, fInt, fInt0, fCmp, fEq, fAdd, fMul, fRepN, fCatN, fNeg, fIs, fIx, fSl, fLen, fAbs, fIntOf, fTwo, fTupOf, fListOf, fIpAdd, DL.seen, ty_int_non, ty_int_bool, ty_int_int, ty_int_str, ty_int_list, ty_int_tuple, ty_bool_non, ty_bool_bool, ty_bool_int, ty_bool_str, ty_bool_list, ty_bool_tuple, ty_str_non, ty_str_bool, ty_str_int, ty_str_str, ty_str_list, ty_str_tuple, ty_list_non, ty_list_bool, ty_list_int, ty_list_str, ty_list_list, ty_list_tuple, ty_tuple_non, ty_tuple_bool, ty_tuple_int, ty_tuple_str, ty_tuple_list, ty_tuple_tuple, ty_dict_non, ty_dict_bool, ty_dict_int, ty_dict_str, ty_dict_list, ty_dict_tuple, Bool.not_false, Bool.not_true, List.getElem?_cons_zero, List.getElem?_cons_succ, List.set_cons_zero, List.set_cons_succ, br_t, br_f, wipeE, ↓reduceIte]
    exact ⟨trivial, h f hf⟩
def phi_law_draw : Ph := fun ds P => ∃ room : Int, ds = [.int room] ∧ 0 < room ∧ room < 2 ^ 64 ∧ ∀ r : Int, 0 ≤ r → r < room → P (.int r)
theorem len_law_draw : ∀ ds Q, phi_law_draw ds Q → ds.length = 1 := by rintro ds Q ⟨r, rfl, _⟩; rfl
/-! _law_draw(state, room): state=0 room=1 found=2 -/
abbrev N_law_draw : List Str := ["state", "room", "found"]
def d_law_draw : DS := (dCut (dIfS (dB (dOp (fEq false) (dStInt 0) (dC (.int 0))))
  (dStPut 0 (dStNext 0 k_law_mixed))
  dNext)
  (dSeq (dSet 2 (dOp fMod (dCB fIntOf (dCons (dStInt 0) dNil)) (dVar 1)))
  (dSeq (dStPut 0 (dOp fFdiv (dStInt 0) (dVar 1)))
  (dRet (dVar 2)))))
abbrev k_law_draw : Nat := d_law_draw.cost
theorem rd_law_draw : ∀ a ds Q, phi_law_draw ds Q → d_law_draw (endS a Q) (startS a N_law_draw.length ds) := by
  rintro a ds Q ⟨room, rfl, h0, h1, h⟩
  show d_law_draw _ [C.s a, C.d (.int room), .no]
  simp only [d_law_draw, dStInt, dStTurn, dStNext, dMixed, dWhileS, dForS, dLcS, dStCells, dStPut, dAppPop, dBegun, dSeq, dCut, dNext, dFrzS, dSet, dSetN, dPar, dParN, dParM, dParNN, dDrop, dRet, dRetN, dIfS, dNever, dBreak, dCont, dAug, dApp, dPutL, dAugL, dIxO, dCBO, dOpO, dOpO2, dTupO, dWhile, dgName, dgNil, dgCons, dgTup, dAsg, dSeqI, dScrI, dRng1, dRng2, dRngN, dZip, dEnum, dFor, dLc, dLc2, dYes, dFrz, dVar, dC, dOp, dOpN, dUn, dChain, dNil, dCons, dTup, dCB, dCBN, dCall, dB, dAnd, dOr, dNot, dAndV, dOrV, dNotV, dIf, dNone, dSome, dSl, dIsi, dIsi2, dListR1, dListR2, dLenScr, dCallS, fLt, fLe, fGt, fGe, fSub, fFdiv, fMod, fPow, fIMul, fInt, fInt0, fCmp, fEq, fAdd, fMul, fRepN, fCatN, fNeg, fIs, fIx, fSl, fLen, fAbs, fIntOf, fTwo, fTupOf, fListOf, fIpAdd, DL.seen, ty_int_non, ty_int_bool, ty_int_int, ty_int_str, ty_int_list, ty_int_tuple, ty_bool_non, ty_bool_bool, ty_bool_int, ty_bool_str, ty_bool_list, ty_bool_tuple, ty_str_non, ty_str_bool, ty_str_int, ty_str_str, ty_str_list, ty_str_tuple, ty_list_non, ty_list_bool, ty_list_int, ty_list_str, ty_list_list, ty_list_tuple, ty_tuple_non, ty_tuple_bool, ty_tuple_int, ty_tuple_str, ty_tuple_list, ty_tuple_tuple, ty_dict_non, ty_dict_bool, ty_dict_int, ty_dict_str, ty_dict_list, ty_dict_tuple, Bool.not_false, Bool.not_true, List.getElem?_cons_zero, List.getElem?_cons_succ, List.set_cons_zero, List.set_cons_succ, br_t, br_f, wipeE, ↓reduceIte]
  refine ⟨fun E => E = [C.s a, C.d (.int room), .no], ?_, ?_⟩
  · intro t ht
    exact ⟨fun _ t' ht' => ⟨ht', rfl⟩, fun _ => rfl⟩
  · rintro E rfl
    simp only [dStInt, dStTurn, dStNext, dMixed, dWhileS, dForS, dLcS, dStCells, dStPut, dAppPop, dBegun, dSeq, dCut, dNext, dFrzS, dSet, dSetN, dPar, dParN, dParM, dParNN, dDrop, dRet, dRetN, dIfS, dNever, dBreak, dCont, dAug, dApp, dPutL, dAugL, dIxO, dCBO, dOpO, dOpO2, dTupO, dWhile, dgName, dgNil, dgCons, dgTup, dAsg, dSeqI, dScrI, dRng1, dRng2, dRngN, dZip, dEnum, dFor, dLc, dLc2, dYes, dFrz, dVar, dC, dOp, dOpN, dUn, dChain, dNil, dCons, dTup, dCB, dCBN, dCall, dB, dAnd, dOr, dNot, dAndV, dOrV, dNotV, dIf, dNone, dSome, dSl, dIsi, dIsi2, dListR1, dListR2, dLenScr, dCallS, fLt, fLe, fGt, fGe, fSub, fFdiv, fMod, fPow, fIMul, fInt, fInt0, fCmp, fEq, fAdd, fMul, fRepN, fCatN, fNeg, fIs, fIx, fSl, fLen, fAbs, fIntOf, fTwo, fTupOf, fListOf, fIpAdd, DL.seen, ty_int_non, ty_int_bool, ty_int_int, ty_int_str, ty_int_list, ty_int_tuple, ty_bool_non, ty_bool_bool, ty_bool_int, ty_bool_str, ty_bool_list, ty_bool_tuple, ty_str_non, ty_str_bool, ty_str_int, ty_str_str, ty_str_list, ty_str_tuple, ty_list_non, ty_list_bool, ty_list_int, ty_list_str, ty_list_list, ty_list_tuple, ty_tuple_non, ty_tuple_bool, ty_tuple_int, ty_tuple_str, ty_tuple_list, ty_tuple_tuple, ty_dict_non, ty_dict_bool, ty_dict_int, ty_dict_str, ty_dict_list, ty_dict_tuple, Bool.not_false, Bool.not_true, List.getElem?_cons_zero, List.getElem?_cons_succ, List.set_cons_zero, List.set_cons_succ, br_t, br_f, wipeE, ↓reduceIte]
    intro t ht
    refine ⟨h0, fun t' ht' => ?_⟩
    exact ⟨log_small h0 h1, Int.ediv_nonneg ht' (by omega), trivial, h _ (Int.emod_nonneg _ (by omega)) (Int.emod_lt_of_pos _ h0)⟩
def phi_law_pick : Ph := fun ds P => ∃ xs : List PyData, ds = [.list xs] ∧ 0 < xs.length ∧ xs.length < 2 ^ 60 ∧ ∀ x ∈ xs, P x
theorem len_law_pick : ∀ ds Q, phi_law_pick ds Q → ds.length = 1 := by rintro ds Q ⟨r, rfl, _⟩; rfl
/-! _law_pick(state, some): state=0 some=1 -/
abbrev N_law_pick : List Str := ["state", "some"]
def d_law_pick : DS := (dRet (dOp fIx (dVar 1) (dCallS 0 phi_law_draw k_law_draw (dCons (dCB fLen (dCons (dVar 1) dNil)) dNil))))
abbrev k_law_pick : Nat := d_law_pick.cost
theorem rd_law_pick : ∀ a ds Q, phi_law_pick ds Q → d_law_pick (endS a Q) (startS a N_law_pick.length ds) := by
  rintro a ds Q ⟨xs, rfl, h0, h1, h⟩
  show d_law_pick _ [C.s a, C.d (.list xs)]
  simp only [d_law_pick, dStInt, dStTurn, dStNext, dMixed, dWhileS, dForS, dLcS, dStCells, dStPut, dAppPop, dBegun, dSeq, dCut, dNext, dFrzS, dSet, dSetN, dPar, dParN, dParM, dParNN, dDrop, dRet, dRetN, dIfS, dNever, dBreak, dCont, dAug, dApp, dPutL, dAugL, dIxO, dCBO, dOpO, dOpO2, dTupO, dWhile, dgName, dgNil, dgCons, dgTup, dAsg, dSeqI, dScrI, dRng1, dRng2, dRngN, dZip, dEnum, dFor, dLc, dLc2, dYes, dFrz, dVar, dC, dOp, dOpN, dUn, dChain, dNil, dCons, dTup, dCB, dCBN, dCall, dB, dAnd, dOr, dNot, dAndV, dOrV, dNotV, dIf, dNone, dSome, dSl, dIsi, dIsi2, dListR1, dListR2, dLenScr, dCallS, fLt, fLe, fGt, fGe, fSub, fFdiv, fMod, fPow, fIMul, fInt, fInt0, fCmp, fEq, fAdd, fMul, fRepN, fCatN, fNeg, fIs, fIx, fSl, fLen, fAbs, fIntOf, fTwo, fTupOf, fListOf, fIpAdd, DL.seen, ty_int_non, ty_int_bool, ty_int_int, ty_int_str, ty_int_list, ty_int_tuple, ty_bool_non, ty_bool_bool, ty_bool_int, ty_bool_str, ty_bool_list, ty_bool_tuple, ty_str_non, ty_str_bool, ty_str_int, ty_str_str, ty_str_list, ty_str_tuple, ty_list_non, ty_list_bool, ty_list_int, ty_list_str, ty_list_list, ty_list_tuple, ty_tuple_non, ty_tuple_bool, ty_tuple_int, ty_tuple_str, ty_tuple_list, ty_tuple_tuple, ty_dict_non, ty_dict_bool, ty_dict_int, ty_dict_str, ty_dict_list, ty_dict_tuple, Bool.not_false, Bool.not_true, List.getElem?_cons_zero, List.getElem?_cons_succ, List.set_cons_zero, List.set_cons_succ, br_t, br_f, wipeE, ↓reduceIte]
  refine ⟨_, rfl, by omega, by omega, fun r r0 r1 => ?_⟩
  have hr : r.toNat < xs.length := by omega
  exact ⟨xs[r.toNat], by rw [atI_in r0 (by omega)]; exact List.getElem?_eq_getElem hr, trivial, h _ (List.getElem_mem hr)⟩
/-- whatever lists of these can be compared -/
def Cmp (xs : List PyData) : Prop := ∀ ys : List PyData, (∀ y ∈ ys, y ∈ xs) → ys.length ≤ xs.length → SeqAt.shaped (.list ys) = true
theorem cmp_ints (ns : List Int) : Cmp (iL ns) := by
  intro ys hy _
  have : ∃ ms : List Int, ys = iL ms := by
    induction ys with
    | nil => exact ⟨[], rfl⟩
    | cons y ys ih =>
      obtain ⟨ms, e⟩ := ih (fun z hz => hy z (List.mem_cons_of_mem _ hz)) (by simp at *; omega)
      obtain ⟨n, _, rfl⟩ := List.mem_map.mp (hy y List.mem_cons_self)
      exact ⟨n :: ms, by rw [e]; rfl⟩
  obtain ⟨ms, rfl⟩ := this
  exact shaped_ints ms
theorem erase_perm {α : Type} : ∀ {l : List α} {i : Nat} {x : α}, l[i]? = some x → (x :: l.eraseIdx i).Perm l
  | [], _, _, h => by simp at h
  | a :: l, 0, x, h => by
    simp at h
    subst h
    exact .refl _
  | a :: l, i + 1, x, h => by
    have h' : l[i]? = some x := by simpa using h
    exact (List.Perm.swap a x _).trans ((erase_perm h').cons a)
def phi_law_shuffled : Ph := fun ds P => ∃ xs : List PyData, ds = [.list xs] ∧ xs.length ≤ 4096 ∧ Cmp xs ∧ ∀ ys : List PyData, ys.Perm xs → P (.list ys)
theorem len_law_shuffled : ∀ ds Q, phi_law_shuffled ds Q → ds.length = 1 := by rintro ds Q ⟨r, rfl, _⟩; rfl
/-! _law_shuffled(state, some): state=0 some=1 left=2 found=3 -/
abbrev N_law_shuffled : List Str := ["state", "some", "left", "found"]
def d_law_shuffled : DS := (dSeq (dParNN 2 3 (dCBN fListOf (dCons (dVar 1) dNil)) dNil)
  (dSeq (dWhileS (dB (dOpO (fEq true) 2 (dFrz dNil)))
  (dAppPop 3 2 (dCallS 0 phi_law_draw k_law_draw (dCons (dCBO fLen 2) dNil))))
  (dFrzS 3 (dRet (dVar 3)))))
abbrev k_law_shuffled : Nat := d_law_shuffled.cost
theorem rd_law_shuffled : ∀ a ds Q, phi_law_shuffled ds Q → d_law_shuffled (endS a Q) (startS a N_law_shuffled.length ds) := by
  rintro a ds Q ⟨xs, rfl, hl, hc, h⟩
  show d_law_shuffled _ [C.s a, C.d (.list xs), .no, .no]
  simp only [d_law_shuffled, dStInt, dStTurn, dStNext, dMixed, dWhileS, dForS, dLcS, dStCells, dStPut, dAppPop, dBegun, dSeq, dCut, dNext, dFrzS, dSet, dSetN, dPar, dParN, dParM, dParNN, dDrop, dRet, dRetN, dIfS, dNever, dBreak, dCont, dAug, dApp, dPutL, dAugL, dIxO, dCBO, dOpO, dOpO2, dTupO, dWhile, dgName, dgNil, dgCons, dgTup, dAsg, dSeqI, dScrI, dRng1, dRng2, dRngN, dZip, dEnum, dFor, dLc, dLc2, dYes, dFrz, dVar, dC, dOp, dOpN, dUn, dChain, dNil, dCons, dTup, dCB, dCBN, dCall, dB, dAnd, dOr, dNot, dAndV, dOrV, dNotV, dIf, dNone, dSome, dSl, dIsi, dIsi2, dListR1, dListR2, dLenScr, dCallS, fLt, fLe, fGt, fGe, fSub, fFdiv, fMod, fPow, fIMul, fInt, fInt0, fCmp, fEq, fAdd, fMul, fRepN, fCatN, fNeg, fIs, fIx, fSl, fLen, fAbs, fIntOf, fTwo, fTupOf, fListOf, fIpAdd, DL.seen, ty_int_non, ty_int_bool, ty_int_int, ty_int_str, ty_int_list, ty_int_tuple, ty_bool_non, ty_bool_bool, ty_bool_int, ty_bool_str, ty_bool_list, ty_bool_tuple, ty_str_non, ty_str_bool, ty_str_int, ty_str_str, ty_str_list, ty_str_tuple, ty_list_non, ty_list_bool, ty_list_int, ty_list_str, ty_list_list, ty_list_tuple, ty_tuple_non, ty_tuple_bool, ty_tuple_int, ty_tuple_str, ty_tuple_list, ty_tuple_tuple, ty_dict_non, ty_dict_bool, ty_dict_int, ty_dict_str, ty_dict_list, ty_dict_tuple, Bool.not_false, Bool.not_true, List.getElem?_cons_zero, List.getElem?_cons_succ, List.set_cons_zero, List.set_cons_succ, br_t, br_f, wipeE, ↓reduceIte]
  refine ⟨fun m E => ∃ left found : List PyData, m = left.length ∧ (found ++ left).Perm xs ∧ E = [C.s a, C.d (.list xs), C.l left, C.l found], ⟨_, hl, xs, [], rfl, .refl _, rfl⟩, ?_⟩
  rintro m E ⟨left, found, rfl, hp, rfl⟩
  simp only [Bool.false_eq_true, dStInt, dStTurn, dStNext, dMixed, dWhileS, dForS, dLcS, dStCells, dStPut, dAppPop, dBegun, dSeq, dCut, dNext, dFrzS, dSet, dSetN, dPar, dParN, dParM, dParNN, dDrop, dRet, dRetN, dIfS, dNever, dBreak, dCont, dAug, dApp, dPutL, dAugL, dIxO, dCBO, dOpO, dOpO2, dTupO, dWhile, dgName, dgNil, dgCons, dgTup, dAsg, dSeqI, dScrI, dRng1, dRng2, dRngN, dZip, dEnum, dFor, dLc, dLc2, dYes, dFrz, dVar, dC, dOp, dOpN, dUn, dChain, dNil, dCons, dTup, dCB, dCBN, dCall, dB, dAnd, dOr, dNot, dAndV, dOrV, dNotV, dIf, dNone, dSome, dSl, dIsi, dIsi2, dListR1, dListR2, dLenScr, dCallS, fLt, fLe, fGt, fGe, fSub, fFdiv, fMod, fPow, fIMul, fInt, fInt0, fCmp, fEq, fAdd, fMul, fRepN, fCatN, fNeg, fIs, fIx, fSl, fLen, fAbs, fIntOf, fTwo, fTupOf, fListOf, fIpAdd, DL.seen, ty_int_non, ty_int_bool, ty_int_int, ty_int_str, ty_int_list, ty_int_tuple, ty_bool_non, ty_bool_bool, ty_bool_int, ty_bool_str, ty_bool_list, ty_bool_tuple, ty_str_non, ty_str_bool, ty_str_int, ty_str_str, ty_str_list, ty_str_tuple, ty_list_non, ty_list_bool, ty_list_int, ty_list_str, ty_list_list, ty_list_tuple, ty_tuple_non, ty_tuple_bool, ty_tuple_int, ty_tuple_str, ty_tuple_list, ty_tuple_tuple, ty_dict_non, ty_dict_bool, ty_dict_int, ty_dict_str, ty_dict_list, ty_dict_tuple, Bool.not_false, Bool.not_true, List.getElem?_cons_zero, List.getElem?_cons_succ, List.set_cons_zero, List.set_cons_succ, br_t, br_f, wipeE, ↓reduceIte]
  have hsub : left.length ≤ xs.length := by rw [← hp.length_eq]; simp
  have hmem : ∀ y ∈ left, y ∈ xs := fun y hy => hp.mem_iff.mp (List.mem_append_right _ hy)
  refine ⟨⟨hc left hmem hsub, shaped_nil⟩, rfl, ?_⟩
  rw [eqv_nil]
  refine ⟨fun e => ?_, fun e => ?_⟩
  · have hne : 0 < left.length := by
      cases left with
      | nil => simp at e
      | cons _ _ => simp
    refine ⟨rfl, _, rfl, by omega, by omega, fun r r0 r1 => ?_⟩
    simp only [dStInt, dStTurn, dStNext, dMixed, dWhileS, dForS, dLcS, dStCells, dStPut, dAppPop, dBegun, dSeq, dCut, dNext, dFrzS, dSet, dSetN, dPar, dParN, dParM, dParNN, dDrop, dRet, dRetN, dIfS, dNever, dBreak, dCont, dAug, dApp, dPutL, dAugL, dIxO, dCBO, dOpO, dOpO2, dTupO, dWhile, dgName, dgNil, dgCons, dgTup, dAsg, dSeqI, dScrI, dRng1, dRng2, dRngN, dZip, dEnum, dFor, dLc, dLc2, dYes, dFrz, dVar, dC, dOp, dOpN, dUn, dChain, dNil, dCons, dTup, dCB, dCBN, dCall, dB, dAnd, dOr, dNot, dAndV, dOrV, dNotV, dIf, dNone, dSome, dSl, dIsi, dIsi2, dListR1, dListR2, dLenScr, dCallS, fLt, fLe, fGt, fGe, fSub, fFdiv, fMod, fPow, fIMul, fInt, fInt0, fCmp, fEq, fAdd, fMul, fRepN, fCatN, fNeg, fIs, fIx, fSl, fLen, fAbs, fIntOf, fTwo, fTupOf, fListOf, fIpAdd, DL.seen, ty_int_non, ty_int_bool, ty_int_int, ty_int_str, ty_int_list, ty_int_tuple, ty_bool_non, ty_bool_bool, ty_bool_int, ty_bool_str, ty_bool_list, ty_bool_tuple, ty_str_non, ty_str_bool, ty_str_int, ty_str_str, ty_str_list, ty_str_tuple, ty_list_non, ty_list_bool, ty_list_int, ty_list_str, ty_list_list, ty_list_tuple, ty_tuple_non, ty_tuple_bool, ty_tuple_int, ty_tuple_str, ty_tuple_list, ty_tuple_tuple, ty_dict_non, ty_dict_bool, ty_dict_int, ty_dict_str, ty_dict_list, ty_dict_tuple, Bool.not_false, Bool.not_true, List.getElem?_cons_zero, List.getElem?_cons_succ, List.set_cons_zero, List.set_cons_succ, br_t, br_f, wipeE, ↓reduceIte]
    have hr : r.toNat < left.length := by omega
    have hf : found.length ≤ xs.length := by rw [← hp.length_eq]; simp
    refine ⟨r.toNat, left[r.toNat], r0, by omega, by omega, List.getElem?_eq_getElem hr, by rw [sizeLine_eq]; omega, _, ?_, _, _, rfl, ?_, rfl⟩
    · rw [List.length_eraseIdx]
      split <;> omega
    · rw [List.append_assoc]
      refine List.Perm.trans (List.Perm.append_left found ?_) hp
      exact erase_perm (List.getElem?_eq_getElem hr)
  · have hne : left = [] := by
      cases left with
      | nil => rfl
      | cons _ _ => simp at e
    subst hne
    rw [List.append_nil] at hp
    exact ⟨trivial, h _ hp⟩
/-- a strictly rising list of small numbers -/
structure Ring (n : Int) (os : List Int) : Prop where
  lo : ∀ o ∈ os, 0 ≤ o ∧ o < n
  inc : os.Pairwise (· < ·)
/-- 0 .. n - 1 shuffled, a part of it sorted -/
theorem ring_of {n : Int} {ys : List PyData} {k : Nat} {ns ns' : List Int} (hp : ys.Perm (rgD 0 n.toNat)) (e : ys.take k = iL ns) (h1 : ns'.Perm ns) (h2 : ns'.Pairwise (· ≤ ·)) : Ring n ns' := by
  have nd : (rgD 0 n.toNat).Nodup := by
    unfold rgD
    refine List.Pairwise.map _ (fun a b hab => ?_) List.nodup_range
    intro z
    injection z with z
    omega
  have nd2 : (iL ns).Nodup := by
    rw [← e]
    exact (hp.symm.nodup nd).sublist (List.take_sublist k ys)
  have nd3 : ns.Nodup := by
    refine List.Pairwise.of_map PyData.int (fun a b hab z => hab (by rw [z])) nd2
  have nd4 : ns'.Nodup := h1.symm.nodup nd3
  refine ⟨fun o ho => ?_, ?_⟩
  · have ho' : PyData.int o ∈ iL ns := List.mem_map.mpr ⟨o, h1.mem_iff.mp ho, rfl⟩
    rw [← e] at ho'
    have ho2 := hp.mem_iff.mp (List.mem_of_mem_take ho')
    obtain ⟨i, hi, e2⟩ := List.mem_map.mp ho2
    injection e2 with e2
    have := List.mem_range.mp hi
    omega
  · exact (h2.and nd4).imp fun h => by
      have := h.1
      have := h.2
      omega
/-- each part of such a list is a list of numbers -/
theorem part_ints {n : Int} {ys : List PyData} (hp : ys.Perm (rgD 0 n.toNat)) (k : Nat) : ∃ ns : List Int, ys.take k = iL ns := by
  have : ∀ l : List PyData, (∀ y ∈ l, y ∈ rgD 0 n.toNat) → ∃ ns : List Int, l = iL ns := by
    intro l
    induction l with
    | nil => intro _; exact ⟨[], rfl⟩
    | cons y l ih =>
      intro h
      obtain ⟨ms, e⟩ := ih fun z hz => h z (List.mem_cons_of_mem _ hz)
      obtain ⟨i, _, rfl⟩ := List.mem_map.mp (h y List.mem_cons_self)
      exact ⟨_ :: ms, by rw [e]; rfl⟩
  exact this _ fun y hy => hp.mem_iff.mp (List.mem_of_mem_take hy)
theorem cmp_rg (n : Nat) : Cmp (rgD 0 n) := by
  have e : rgD 0 n = iL ((List.range n).map fun (i : Nat) => (0 : Int) + (i : Int)) := by unfold rgD iL; rw [List.map_map]; rfl
  rw [e]
  exact cmp_ints _
def phi_law_some_ring : Ph := fun ds P => ∃ n least most : Int, ds = [.int n, .int least, .int most] ∧ 0 ≤ n ∧ n ≤ 4096 ∧ 0 ≤ least ∧ least ≤ most ∧ most ≤ 2 ^ 40 ∧ ∀ os : List Int, Ring n os → (∃ k : Int, least ≤ k ∧ k ≤ most ∧ (os.length : Int) = min k n) → P (.tuple [.int n, .tuple (iL os)])
theorem len_law_some_ring : ∀ ds Q, phi_law_some_ring ds Q → ds.length = 3 := by rintro ds Q ⟨n, l, m, rfl, _⟩; rfl
/-! _law_some_ring(state, n, least, most): state=0 n=1 least=2 most=3 -/
abbrev N_law_some_ring : List Str := ["state", "n", "least", "most"]
def d_law_some_ring : DS := (dRet (dTup (dCons (dVar 1) (dCons (dCB fTupOf (dCons (dFrz (dCBN fSort (dCons (dSl fSl (dCallS 0 phi_law_shuffled k_law_shuffled (dCons (dFrz (dListR1 (dVar 1))) dNil)) dNone (dSome (dOp fAdd (dVar 2) (dCallS 0 phi_law_draw k_law_draw (dCons (dOp fAdd (dOp fSub (dVar 3) (dVar 2)) (dC (.int 1))) dNil))))) dNil))) dNil)) dNil))))
abbrev k_law_some_ring : Nat := d_law_some_ring.cost
theorem rd_law_some_ring : ∀ a ds Q, phi_law_some_ring ds Q → d_law_some_ring (endS a Q) (startS a N_law_some_ring.length ds) := by
  rintro a ds Q ⟨n, least, most, rfl, n0, n1, l0, l1, m1, h⟩
  show d_law_some_ring _ [C.s a, C.d (.int n), C.d (.int least), C.d (.int most)]
  simp only [d_law_some_ring, dStInt, dStTurn, dStNext, dMixed, dWhileS, dForS, dLcS, dStCells, dStPut, dAppPop, dBegun, dSeq, dCut, dNext, dFrzS, dSet, dSetN, dPar, dParN, dParM, dParNN, dDrop, dRet, dRetN, dIfS, dNever, dBreak, dCont, dAug, dApp, dPutL, dAugL, dIxO, dCBO, dOpO, dOpO2, dTupO, dWhile, dgName, dgNil, dgCons, dgTup, dAsg, dSeqI, dScrI, dRng1, dRng2, dRngN, dZip, dEnum, dFor, dLc, dLc2, dYes, dFrz, dVar, dC, dOp, dOpN, dUn, dChain, dNil, dCons, dTup, dCB, dCBN, dCall, dB, dAnd, dOr, dNot, dAndV, dOrV, dNotV, dIf, dNone, dSome, dSl, dIsi, dIsi2, dListR1, dListR2, dLenScr, dCallS, fLt, fLe, fGt, fGe, fSub, fFdiv, fMod, fPow, fIMul, fInt, fInt0, fCmp, fEq, fAdd, fMul, fRepN, fCatN, fNeg, fIs, fIx, fSl, fLen, fAbs, fIntOf, fTwo, fTupOf, fListOf, fIpAdd, DL.seen, ty_int_non, ty_int_bool, ty_int_int, ty_int_str, ty_int_list, ty_int_tuple, ty_bool_non, ty_bool_bool, ty_bool_int, ty_bool_str, ty_bool_list, ty_bool_tuple, ty_str_non, ty_str_bool, ty_str_int, ty_str_str, ty_str_list, ty_str_tuple, ty_list_non, ty_list_bool, ty_list_int, ty_list_str, ty_list_list, ty_list_tuple, ty_tuple_non, ty_tuple_bool, ty_tuple_int, ty_tuple_str, ty_tuple_list, ty_tuple_tuple, ty_dict_non, ty_dict_bool, ty_dict_int, ty_dict_str, ty_dict_list, ty_dict_tuple, Bool.not_false, Bool.not_true, List.getElem?_cons_zero, List.getElem?_cons_succ, List.set_cons_zero, List.set_cons_succ, br_t, br_f, wipeE, ↓reduceIte]
  refine ⟨⟨by omega, by omega, by omega, by omega, by omega⟩, _, rfl, by rw [rgD_len]; omega, cmp_rg _, fun ys hy => ?_⟩
  simp only [dStInt, dStTurn, dStNext, dMixed, dWhileS, dForS, dLcS, dStCells, dStPut, dAppPop, dBegun, dSeq, dCut, dNext, dFrzS, dSet, dSetN, dPar, dParN, dParM, dParNN, dDrop, dRet, dRetN, dIfS, dNever, dBreak, dCont, dAug, dApp, dPutL, dAugL, dIxO, dCBO, dOpO, dOpO2, dTupO, dWhile, dgName, dgNil, dgCons, dgTup, dAsg, dSeqI, dScrI, dRng1, dRng2, dRngN, dZip, dEnum, dFor, dLc, dLc2, dYes, dFrz, dVar, dC, dOp, dOpN, dUn, dChain, dNil, dCons, dTup, dCB, dCBN, dCall, dB, dAnd, dOr, dNot, dAndV, dOrV, dNotV, dIf, dNone, dSome, dSl, dIsi, dIsi2, dListR1, dListR2, dLenScr, dCallS, fLt, fLe, fGt, fGe, fSub, fFdiv, fMod, fPow, fIMul, fInt, fInt0, fCmp, fEq, fAdd, fMul, fRepN, fCatN, fNeg, fIs, fIx, fSl, fLen, fAbs, fIntOf, fTwo, fTupOf, fListOf, fIpAdd, DL.seen, ty_int_non, ty_int_bool, ty_int_int, ty_int_str, ty_int_list, ty_int_tuple, ty_bool_non, ty_bool_bool, ty_bool_int, ty_bool_str, ty_bool_list, ty_bool_tuple, ty_str_non, ty_str_bool, ty_str_int, ty_str_str, ty_str_list, ty_str_tuple, ty_list_non, ty_list_bool, ty_list_int, ty_list_str, ty_list_list, ty_list_tuple, ty_tuple_non, ty_tuple_bool, ty_tuple_int, ty_tuple_str, ty_tuple_list, ty_tuple_tuple, ty_dict_non, ty_dict_bool, ty_dict_int, ty_dict_str, ty_dict_list, ty_dict_tuple, Bool.not_false, Bool.not_true, List.getElem?_cons_zero, List.getElem?_cons_succ, List.set_cons_zero, List.set_cons_succ, br_t, br_f, wipeE, ↓reduceIte]
  refine ⟨_, rfl, by omega, by omega, fun r r0 r1 => ?_⟩
  simp only [dStInt, dStTurn, dStNext, dMixed, dWhileS, dForS, dLcS, dStCells, dStPut, dAppPop, dBegun, dSeq, dCut, dNext, dFrzS, dSet, dSetN, dPar, dParN, dParM, dParNN, dDrop, dRet, dRetN, dIfS, dNever, dBreak, dCont, dAug, dApp, dPutL, dAugL, dIxO, dCBO, dOpO, dOpO2, dTupO, dWhile, dgName, dgNil, dgCons, dgTup, dAsg, dSeqI, dScrI, dRng1, dRng2, dRngN, dZip, dEnum, dFor, dLc, dLc2, dYes, dFrz, dVar, dC, dOp, dOpN, dUn, dChain, dNil, dCons, dTup, dCB, dCBN, dCall, dB, dAnd, dOr, dNot, dAndV, dOrV, dNotV, dIf, dNone, dSome, dSl, dIsi, dIsi2, dListR1, dListR2, dLenScr, dCallS, fLt, fLe, fGt, fGe, fSub, fFdiv, fMod, fPow, fIMul, fInt, fInt0, fCmp, fEq, fAdd, fMul, fRepN, fCatN, fNeg, fIs, fIx, fSl, fLen, fAbs, fIntOf, fTwo, fTupOf, fListOf, fIpAdd, DL.seen, ty_int_non, ty_int_bool, ty_int_int, ty_int_str, ty_int_list, ty_int_tuple, ty_bool_non, ty_bool_bool, ty_bool_int, ty_bool_str, ty_bool_list, ty_bool_tuple, ty_str_non, ty_str_bool, ty_str_int, ty_str_str, ty_str_list, ty_str_tuple, ty_list_non, ty_list_bool, ty_list_int, ty_list_str, ty_list_list, ty_list_tuple, ty_tuple_non, ty_tuple_bool, ty_tuple_int, ty_tuple_str, ty_tuple_list, ty_tuple_tuple, ty_dict_non, ty_dict_bool, ty_dict_int, ty_dict_str, ty_dict_list, ty_dict_tuple, Bool.not_false, Bool.not_true, List.getElem?_cons_zero, List.getElem?_cons_succ, List.set_cons_zero, List.set_cons_succ, br_t, br_f, wipeE, ↓reduceIte]
  have ek : (some (least + r)) = some (((least + r).toNat : Nat) : Int) := by congr 1; omega
  rw [ek, cutD_to]
  obtain ⟨ns, ens⟩ := part_ints hy (least + r).toNat
  rw [ens]
  refine ⟨ns, rfl, fun ns' q1 q2 => ⟨trivial, h ns' (ring_of hy ens q1 q2) ⟨least + r, by omega, by omega, ?_⟩⟩⟩
  have e1 : ns'.length = ns.length := q1.length_eq
  have e2 : ns.length = (ys.take (least + r).toNat).length := by rw [ens, iL_len]
  have e3 : ys.length = n.toNat := by rw [hy.length_eq, rgD_len]
  rw [e1, e2, List.length_take, e3]
  omega
end DL


/-! what the laws' own helpers are worth: the state made, likeness -/
namespace DL
open PySem PySem.Spec PyProof.Rows L2
def dn1_begun : DN := (dLc (dScrI 0) (dgName 2) (dB (dOp fGe (dCB fAbs (dCons (dVar 2) dNil)) (dOp fPow (dC (.int 10)) (dC (.int 18))))) (dOp fSub (dCB fAbs (dCons (dVar 2) dNil)) (dOp fPow (dC (.int 10)) (dC (.int 18)))) [2])
def dn2_begun : DN := (dLc (dScrI 0) (dgName 2) dYes (dCB fAbs (dCons (dVar 2) dNil)) [2])
theorem iL_snoc (gs : List Int) (g : Int) : iL gs ++ [PyData.int g] = iL (gs ++ [g]) := by simp [iL]
theorem abs_nonneg (i : Int) : 0 ≤ if i < 0 then -i else i := by split <;> omega
theorem r1_begun : ∀ (ns : List Int) (c1 c2 : C) (P : List PyData → Prop), plainC c2 = true → ns.length ≤ 1000 → (∀ gs : List Int, (∀ x ∈ gs, 0 ≤ x) → gs.length ≤ 1000 → P (iL gs)) → dn1_begun [C.scr ns, c1, c2] P := by
  intro ns c1 c2 P hp hl h
  simp only [dn1_begun, dStInt, dStTurn, dStNext, dMixed, dWhileS, dForS, dLcS, dStCells, dStPut, dAppPop, dBegun, dSeq, dCut, dNext, dFrzS, dSet, dSetN, dPar, dParN, dParM, dParNN, dDrop, dRet, dRetN, dIfS, dNever, dBreak, dCont, dAug, dApp, dPutL, dAugL, dIxO, dCBO, dOpO, dOpO2, dTupO, dWhile, dgName, dgNil, dgCons, dgTup, dAsg, dSeqI, dScrI, dRng1, dRng2, dRngN, dZip, dEnum, dFor, dLc, dLc2, dYes, dFrz, dVar, dC, dOp, dOpN, dUn, dChain, dNil, dCons, dTup, dCB, dCBN, dCall, dB, dAnd, dOr, dNot, dAndV, dOrV, dNotV, dIf, dNone, dSome, dSl, dIsi, dIsi2, dListR1, dListR2, dLenScr, dCallS, fLt, fLe, fGt, fGe, fSub, fFdiv, fMod, fPow, fIMul, fInt, fInt0, fCmp, fEq, fAdd, fMul, fRepN, fCatN, fNeg, fIs, fIx, fSl, fLen, fAbs, fIntOf, fTwo, fTupOf, fListOf, fIpAdd, DL.seen, ty_int_non, ty_int_bool, ty_int_int, ty_int_str, ty_int_list, ty_int_tuple, ty_bool_non, ty_bool_bool, ty_bool_int, ty_bool_str, ty_bool_list, ty_bool_tuple, ty_str_non, ty_str_bool, ty_str_int, ty_str_str, ty_str_list, ty_str_tuple, ty_list_non, ty_list_bool, ty_list_int, ty_list_str, ty_list_list, ty_list_tuple, ty_tuple_non, ty_tuple_bool, ty_tuple_int, ty_tuple_str, ty_tuple_list, ty_tuple_tuple, ty_dict_non, ty_dict_bool, ty_dict_int, ty_dict_str, ty_dict_list, ty_dict_tuple, Bool.not_false, Bool.not_true, List.getElem?_cons_zero, List.getElem?_cons_succ, List.set_cons_zero, List.set_cons_succ, br_t, br_f, wipeE, ↓reduceIte]
  refine ⟨by simp [plainAt, hp], fun i acc => ∃ gs : List Int, acc = iL gs ∧ (∀ x ∈ gs, 0 ≤ x) ∧ gs.length ≤ i, ⟨[], rfl, by simp, by simp⟩, by rw [iL_len]; exact line_big hl, ?_, ?_⟩
  · rintro i x acc hx ⟨gs, rfl, h0, h1⟩
    obtain ⟨a, ha, rfl⟩ := iL_at hx
    simp only [dStInt, dStTurn, dStNext, dMixed, dWhileS, dForS, dLcS, dStCells, dStPut, dAppPop, dBegun, dSeq, dCut, dNext, dFrzS, dSet, dSetN, dPar, dParN, dParM, dParNN, dDrop, dRet, dRetN, dIfS, dNever, dBreak, dCont, dAug, dApp, dPutL, dAugL, dIxO, dCBO, dOpO, dOpO2, dTupO, dWhile, dgName, dgNil, dgCons, dgTup, dAsg, dSeqI, dScrI, dRng1, dRng2, dRngN, dZip, dEnum, dFor, dLc, dLc2, dYes, dFrz, dVar, dC, dOp, dOpN, dUn, dChain, dNil, dCons, dTup, dCB, dCBN, dCall, dB, dAnd, dOr, dNot, dAndV, dOrV, dNotV, dIf, dNone, dSome, dSl, dIsi, dIsi2, dListR1, dListR2, dLenScr, dCallS, fLt, fLe, fGt, fGe, fSub, fFdiv, fMod, fPow, fIMul, fInt, fInt0, fCmp, fEq, fAdd, fMul, fRepN, fCatN, fNeg, fIs, fIx, fSl, fLen, fAbs, fIntOf, fTwo, fTupOf, fListOf, fIpAdd, DL.seen, ty_int_non, ty_int_bool, ty_int_int, ty_int_str, ty_int_list, ty_int_tuple, ty_bool_non, ty_bool_bool, ty_bool_int, ty_bool_str, ty_bool_list, ty_bool_tuple, ty_str_non, ty_str_bool, ty_str_int, ty_str_str, ty_str_list, ty_str_tuple, ty_list_non, ty_list_bool, ty_list_int, ty_list_str, ty_list_list, ty_list_tuple, ty_tuple_non, ty_tuple_bool, ty_tuple_int, ty_tuple_str, ty_tuple_list, ty_tuple_tuple, ty_dict_non, ty_dict_bool, ty_dict_int, ty_dict_str, ty_dict_list, ty_dict_tuple, Bool.not_false, Bool.not_true, List.getElem?_cons_zero, List.getElem?_cons_succ, List.set_cons_zero, List.set_cons_succ, br_t, br_f, wipeE, ↓reduceIte]
    refine ⟨⟨by decide, by decide, by decide⟩, fun e => ?_, fun e => ⟨gs, rfl, h0, by omega⟩⟩
    refine ⟨⟨by decide, by decide, by decide⟩, gs ++ [_], iL_snoc _ _, ?_, by rw [List.length_append]; simp; omega⟩
    intro y hy
    rcases List.mem_append.mp hy with hy | hy
    · exact h0 y hy
    · rw [List.mem_singleton.mp hy]
      have e2 := of_decide_eq_true e
      omega
  · rintro acc ⟨gs, rfl, h0, h1⟩
    rw [iL_len] at h1
    exact h gs h0 (by omega)
theorem r2_begun : ∀ (ns : List Int) (c1 c2 : C) (P : List PyData → Prop), plainC c2 = true → ns.length ≤ 1000 → (∀ gs : List Int, (∀ x ∈ gs, 0 ≤ x) → gs.length ≤ 1000 → P (iL gs)) → dn2_begun [C.scr ns, c1, c2] P := by
  intro ns c1 c2 P hp hl h
  simp only [dn2_begun, dStInt, dStTurn, dStNext, dMixed, dWhileS, dForS, dLcS, dStCells, dStPut, dAppPop, dBegun, dSeq, dCut, dNext, dFrzS, dSet, dSetN, dPar, dParN, dParM, dParNN, dDrop, dRet, dRetN, dIfS, dNever, dBreak, dCont, dAug, dApp, dPutL, dAugL, dIxO, dCBO, dOpO, dOpO2, dTupO, dWhile, dgName, dgNil, dgCons, dgTup, dAsg, dSeqI, dScrI, dRng1, dRng2, dRngN, dZip, dEnum, dFor, dLc, dLc2, dYes, dFrz, dVar, dC, dOp, dOpN, dUn, dChain, dNil, dCons, dTup, dCB, dCBN, dCall, dB, dAnd, dOr, dNot, dAndV, dOrV, dNotV, dIf, dNone, dSome, dSl, dIsi, dIsi2, dListR1, dListR2, dLenScr, dCallS, fLt, fLe, fGt, fGe, fSub, fFdiv, fMod, fPow, fIMul, fInt, fInt0, fCmp, fEq, fAdd, fMul, fRepN, fCatN, fNeg, fIs, fIx, fSl, fLen, fAbs, fIntOf, fTwo, fTupOf, fListOf, fIpAdd, DL.seen, ty_int_non, ty_int_bool, ty_int_int, ty_int_str, ty_int_list, ty_int_tuple, ty_bool_non, ty_bool_bool, ty_bool_int, ty_bool_str, ty_bool_list, ty_bool_tuple, ty_str_non, ty_str_bool, ty_str_int, ty_str_str, ty_str_list, ty_str_tuple, ty_list_non, ty_list_bool, ty_list_int, ty_list_str, ty_list_list, ty_list_tuple, ty_tuple_non, ty_tuple_bool, ty_tuple_int, ty_tuple_str, ty_tuple_list, ty_tuple_tuple, ty_dict_non, ty_dict_bool, ty_dict_int, ty_dict_str, ty_dict_list, ty_dict_tuple, Bool.not_false, Bool.not_true, List.getElem?_cons_zero, List.getElem?_cons_succ, List.set_cons_zero, List.set_cons_succ, br_t, br_f, wipeE, ↓reduceIte]
  refine ⟨by simp [plainAt, hp], fun i acc => ∃ gs : List Int, acc = iL gs ∧ (∀ x ∈ gs, 0 ≤ x) ∧ gs.length ≤ i, ⟨[], rfl, by simp, by simp⟩, by rw [iL_len]; exact line_big hl, ?_, ?_⟩
  · rintro i x acc hx ⟨gs, rfl, h0, h1⟩
    obtain ⟨a, ha, rfl⟩ := iL_at hx
    simp only [dStInt, dStTurn, dStNext, dMixed, dWhileS, dForS, dLcS, dStCells, dStPut, dAppPop, dBegun, dSeq, dCut, dNext, dFrzS, dSet, dSetN, dPar, dParN, dParM, dParNN, dDrop, dRet, dRetN, dIfS, dNever, dBreak, dCont, dAug, dApp, dPutL, dAugL, dIxO, dCBO, dOpO, dOpO2, dTupO, dWhile, dgName, dgNil, dgCons, dgTup, dAsg, dSeqI, dScrI, dRng1, dRng2, dRngN, dZip, dEnum, dFor, dLc, dLc2, dYes, dFrz, dVar, dC, dOp, dOpN, dUn, dChain, dNil, dCons, dTup, dCB, dCBN, dCall, dB, dAnd, dOr, dNot, dAndV, dOrV, dNotV, dIf, dNone, dSome, dSl, dIsi, dIsi2, dListR1, dListR2, dLenScr, dCallS, fLt, fLe, fGt, fGe, fSub, fFdiv, fMod, fPow, fIMul, fInt, fInt0, fCmp, fEq, fAdd, fMul, fRepN, fCatN, fNeg, fIs, fIx, fSl, fLen, fAbs, fIntOf, fTwo, fTupOf, fListOf, fIpAdd, DL.seen, ty_int_non, ty_int_bool, ty_int_int, ty_int_str, ty_int_list, ty_int_tuple, ty_bool_non, ty_bool_bool, ty_bool_int, ty_bool_str, ty_bool_list, ty_bool_tuple, ty_str_non, ty_str_bool, ty_str_int, ty_str_str, ty_str_list, ty_str_tuple, ty_list_non, ty_list_bool, ty_list_int, ty_list_str, ty_list_list, ty_list_tuple, ty_tuple_non, ty_tuple_bool, ty_tuple_int, ty_tuple_str, ty_tuple_list, ty_tuple_tuple, ty_dict_non, ty_dict_bool, ty_dict_int, ty_dict_str, ty_dict_list, ty_dict_tuple, Bool.not_false, Bool.not_true, List.getElem?_cons_zero, List.getElem?_cons_succ, List.set_cons_zero, List.set_cons_succ, br_t, br_f, wipeE, ↓reduceIte]
    refine ⟨gs ++ [_], iL_snoc _ _, ?_, by rw [List.length_append]; simp; omega⟩
    intro y hy
    rcases List.mem_append.mp hy with hy | hy
    · exact h0 y hy
    · rw [List.mem_singleton.mp hy]
      exact abs_nonneg a
  · rintro acc ⟨gs, rfl, h0, h1⟩
    rw [iL_len] at h1
    exact h gs h0 (by omega)
/-! likeness -/
def okIs : Nat → PyData → Prop
  | 0, d => flatD d = true ∧ SeqAt.shaped d = true
  | n + 1, d => (flatD d = true ∧ SeqAt.shaped d = true) ∨ ∃ ds : List PyData, (d = .list ds ∨ d = .tuple ds) ∧ ds.length ≤ 100000 ∧ ∀ x ∈ ds, okIs n x
def phi_law_is (n : Nat) : Ph := fun ds P => ∃ d, ds = [d, d] ∧ okIs n d ∧ P (.bool true)
theorem len_law_is (n : Nat) : ∀ ds Q, phi_law_is n ds Q → ds.length = 2 := by rintro ds Q ⟨d, rfl, _⟩; rfl
abbrev N_law_is : List Str := ["found", "due", "one", "other"]
def d_law_is0 : DS := (dSeq (dIfS (dB (dIsi2 "tuple" "list" (dVar 1)))
  dNever
  dNext)
  (dSeq (dIfS (dB (dIsi "dict" (dVar 1)))
  dNever
  dNext)
  (dSeq (dIfS (dOr (dB (dOp (fIs false) (dVar 1) (dC .none))) (dB (dIsi "str" (dVar 1))))
  (dRet (dAndV (dOp (fEq false) (dIsi "str" (dVar 0)) (dIsi "str" (dVar 1))) (dOp (fEq false) (dVar 0) (dVar 1))))
  dNext)
  (dRet (dAndV (dIsi "int" (dVar 0)) (dAndV (dOp (fEq false) (dVar 0) (dVar 1)) (dAndV (dOp (fEq false) (dOp (fIs false) (dVar 0) (dC (.bool true))) (dOp (fIs false) (dVar 1) (dC (.bool true)))) (dOp (fEq false) (dOp (fIs false) (dVar 0) (dC (.bool false))) (dOp (fIs false) (dVar 1) (dC (.bool false)))))))))))
def d_law_is (phi_law_is : Ph) : DS := (dSeq (dIfS (dB (dIsi2 "tuple" "list" (dVar 1)))
  (dSeq (dIfS (dOr (dB (dOp (fEq true) (dIsi "tuple" (dVar 1)) (dIsi "tuple" (dVar 0)))) (dOr (dB (dOp (fEq true) (dIsi "list" (dVar 1)) (dIsi "list" (dVar 0)))) (dB (dOp (fEq true) (dCB fLen (dCons (dVar 0) dNil)) (dCB fLen (dCons (dVar 1) dNil))))))
  (dRet (dC (.bool false)))
  dNext)
  (dRet (dOp (fEq false) (dFrz (dLc (dZip (dCons (dVar 0) (dCons (dVar 1) dNil))) (dgTup 2 (dgCons (dgName 2) (dgCons (dgName 3) dgNil))) (dNot (dB (dCall phi_law_is (dCons (dVar 2) (dCons (dVar 3) dNil))))) (dC (.int 1)) [2, 3])) (dFrz dNil))))
  dNext)
  (dSeq (dIfS (dB (dIsi "dict" (dVar 1)))
  dNever
  dNext)
  (dSeq (dIfS (dOr (dB (dOp (fIs false) (dVar 1) (dC .none))) (dB (dIsi "str" (dVar 1))))
  (dRet (dAndV (dOp (fEq false) (dIsi "str" (dVar 0)) (dIsi "str" (dVar 1))) (dOp (fEq false) (dVar 0) (dVar 1))))
  dNext)
  (dRet (dAndV (dIsi "int" (dVar 0)) (dAndV (dOp (fEq false) (dVar 0) (dVar 1)) (dAndV (dOp (fEq false) (dOp (fIs false) (dVar 0) (dC (.bool true))) (dOp (fIs false) (dVar 1) (dC (.bool true)))) (dOp (fEq false) (dOp (fIs false) (dVar 0) (dC (.bool false))) (dOp (fIs false) (dVar 1) (dC (.bool false)))))))))))
theorem shaped_bool (b : Bool) : SeqAt.shaped (.bool b) = true := by cases b <;> rfl
theorem eqv_bool (a b : Bool) : PyData.eqv (.bool a) (.bool b) = (a == b) := by simp only [PyData.eqv]
theorem eqv_bb (a : Bool) : PyData.eqv (.bool a) (.bool a) = true := by rw [eqv_bool]; simp
theorem eqv_flat {d : PyData} (h : flatD d = true) : PyData.eqv d d = true := by
  cases d <;> first | (cases h; done) | simp [PyData.eqv]
theorem isD_none (d : PyData) (h : d ≠ .none) : isD d .none = false := by cases d <;> first | rfl | exact absurd rfl h
/-- the last two tests, of what is alike -/
theorem last_is {d : PyData} {Q : PyData → Prop} (hf : flatD d = true) (hs : SeqAt.shaped d = true) (h : Q (.bool true)) : ∀ E : Env, E[0]? = some (C.d d) → E[1]? = some (C.d d) → (∃ i, d = .int i) ∨ (∃ b, d = .bool b) →
    (dAndV (dIsi "int" (dVar 0)) (dAndV (dOp (fEq false) (dVar 0) (dVar 1)) (dAndV (dOp (fEq false) (dOp (fIs false) (dVar 0) (dC (.bool true))) (dOp (fIs false) (dVar 1) (dC (.bool true)))) (dOp (fEq false) (dOp (fIs false) (dVar 0) (dC (.bool false))) (dOp (fIs false) (dVar 1) (dC (.bool false))))))) E Q := by
  intro E h0 h1 hd
  rcases hd with ⟨i, rfl⟩ | ⟨b, rfl⟩
  · simp only [h0, h1, Bool.false_eq_true, decide_true, shaped_bool, eqv_bb, and_true, true_and, dStInt, dStTurn, dStNext, dMixed, dWhileS, dForS, dLcS, dStCells, dStPut, dAppPop, dBegun, dSeq, dCut, dNext, dFrzS, dSet, dSetN, dPar, dParN, dParM, dParNN, dDrop, dRet, dRetN, dIfS, dNever, dBreak, dCont, dAug, dApp, dPutL, dAugL, dIxO, dCBO, dOpO, dOpO2, dTupO, dWhile, dgName, dgNil, dgCons, dgTup, dAsg, dSeqI, dScrI, dRng1, dRng2, dRngN, dZip, dEnum, dFor, dLc, dLc2, dYes, dFrz, dVar, dC, dOp, dOpN, dUn, dChain, dNil, dCons, dTup, dCB, dCBN, dCall, dB, dAnd, dOr, dNot, dAndV, dOrV, dNotV, dIf, dNone, dSome, dSl, dIsi, dIsi2, dListR1, dListR2, dLenScr, dCallS, fLt, fLe, fGt, fGe, fSub, fFdiv, fMod, fPow, fIMul, fInt, fInt0, fCmp, fEq, fAdd, fMul, fRepN, fCatN, fNeg, fIs, fIx, fSl, fLen, fAbs, fIntOf, fTwo, fTupOf, fListOf, fIpAdd, DL.seen, ty_int_non, ty_int_bool, ty_int_int, ty_int_str, ty_int_list, ty_int_tuple, ty_bool_non, ty_bool_bool, ty_bool_int, ty_bool_str, ty_bool_list, ty_bool_tuple, ty_str_non, ty_str_bool, ty_str_int, ty_str_str, ty_str_list, ty_str_tuple, ty_list_non, ty_list_bool, ty_list_int, ty_list_str, ty_list_list, ty_list_tuple, ty_tuple_non, ty_tuple_bool, ty_tuple_int, ty_tuple_str, ty_tuple_list, ty_tuple_tuple, ty_dict_non, ty_dict_bool, ty_dict_int, ty_dict_str, ty_dict_list, ty_dict_tuple, Bool.not_false, Bool.not_true, List.getElem?_cons_zero, List.getElem?_cons_succ, List.set_cons_zero, List.set_cons_succ, br_t, br_f, wipeE, ↓reduceIte]
    exact h
  · simp only [h0, h1, Bool.false_eq_true, decide_true, shaped_bool, eqv_bb, and_true, true_and, dStInt, dStTurn, dStNext, dMixed, dWhileS, dForS, dLcS, dStCells, dStPut, dAppPop, dBegun, dSeq, dCut, dNext, dFrzS, dSet, dSetN, dPar, dParN, dParM, dParNN, dDrop, dRet, dRetN, dIfS, dNever, dBreak, dCont, dAug, dApp, dPutL, dAugL, dIxO, dCBO, dOpO, dOpO2, dTupO, dWhile, dgName, dgNil, dgCons, dgTup, dAsg, dSeqI, dScrI, dRng1, dRng2, dRngN, dZip, dEnum, dFor, dLc, dLc2, dYes, dFrz, dVar, dC, dOp, dOpN, dUn, dChain, dNil, dCons, dTup, dCB, dCBN, dCall, dB, dAnd, dOr, dNot, dAndV, dOrV, dNotV, dIf, dNone, dSome, dSl, dIsi, dIsi2, dListR1, dListR2, dLenScr, dCallS, fLt, fLe, fGt, fGe, fSub, fFdiv, fMod, fPow, fIMul, fInt, fInt0, fCmp, fEq, fAdd, fMul, fRepN, fCatN, fNeg, fIs, fIx, fSl, fLen, fAbs, fIntOf, fTwo, fTupOf, fListOf, fIpAdd, DL.seen, ty_int_non, ty_int_bool, ty_int_int, ty_int_str, ty_int_list, ty_int_tuple, ty_bool_non, ty_bool_bool, ty_bool_int, ty_bool_str, ty_bool_list, ty_bool_tuple, ty_str_non, ty_str_bool, ty_str_int, ty_str_str, ty_str_list, ty_str_tuple, ty_list_non, ty_list_bool, ty_list_int, ty_list_str, ty_list_list, ty_list_tuple, ty_tuple_non, ty_tuple_bool, ty_tuple_int, ty_tuple_str, ty_tuple_list, ty_tuple_tuple, ty_dict_non, ty_dict_bool, ty_dict_int, ty_dict_str, ty_dict_list, ty_dict_tuple, Bool.not_false, Bool.not_true, List.getElem?_cons_zero, List.getElem?_cons_succ, List.set_cons_zero, List.set_cons_succ, br_t, br_f, wipeE, ↓reduceIte]
    exact h
theorem flat_is {d : PyData} {DD : DEnds} (hf : flatD d = true) (hs : SeqAt.shaped d = true) (h : ∀ E, DD.rt (.bool true) E) (E : Env) (h0 : E[0]? = some (C.d d)) (h1 : E[1]? = some (C.d d)) :
    (dSeq (dIfS (dOr (dB (dOp (fIs false) (dVar 1) (dC .none))) (dB (dIsi "str" (dVar 1))))
  (dRet (dAndV (dOp (fEq false) (dIsi "str" (dVar 0)) (dIsi "str" (dVar 1))) (dOp (fEq false) (dVar 0) (dVar 1))))
  dNext)
  (dRet (dAndV (dIsi "int" (dVar 0)) (dAndV (dOp (fEq false) (dVar 0) (dVar 1)) (dAndV (dOp (fEq false) (dOp (fIs false) (dVar 0) (dC (.bool true))) (dOp (fIs false) (dVar 1) (dC (.bool true)))) (dOp (fEq false) (dOp (fIs false) (dVar 0) (dC (.bool false))) (dOp (fIs false) (dVar 1) (dC (.bool false)))))))))
    DD E := by
  cases d with
  | none =>
    simp only [h0, h1, isD, Bool.false_eq_true, decide_true, shaped_bool, eqv_bb, and_true, true_and, dStInt, dStTurn, dStNext, dMixed, dWhileS, dForS, dLcS, dStCells, dStPut, dAppPop, dBegun, dSeq, dCut, dNext, dFrzS, dSet, dSetN, dPar, dParN, dParM, dParNN, dDrop, dRet, dRetN, dIfS, dNever, dBreak, dCont, dAug, dApp, dPutL, dAugL, dIxO, dCBO, dOpO, dOpO2, dTupO, dWhile, dgName, dgNil, dgCons, dgTup, dAsg, dSeqI, dScrI, dRng1, dRng2, dRngN, dZip, dEnum, dFor, dLc, dLc2, dYes, dFrz, dVar, dC, dOp, dOpN, dUn, dChain, dNil, dCons, dTup, dCB, dCBN, dCall, dB, dAnd, dOr, dNot, dAndV, dOrV, dNotV, dIf, dNone, dSome, dSl, dIsi, dIsi2, dListR1, dListR2, dLenScr, dCallS, fLt, fLe, fGt, fGe, fSub, fFdiv, fMod, fPow, fIMul, fInt, fInt0, fCmp, fEq, fAdd, fMul, fRepN, fCatN, fNeg, fIs, fIx, fSl, fLen, fAbs, fIntOf, fTwo, fTupOf, fListOf, fIpAdd, DL.seen, ty_int_non, ty_int_bool, ty_int_int, ty_int_str, ty_int_list, ty_int_tuple, ty_bool_non, ty_bool_bool, ty_bool_int, ty_bool_str, ty_bool_list, ty_bool_tuple, ty_str_non, ty_str_bool, ty_str_int, ty_str_str, ty_str_list, ty_str_tuple, ty_list_non, ty_list_bool, ty_list_int, ty_list_str, ty_list_list, ty_list_tuple, ty_tuple_non, ty_tuple_bool, ty_tuple_int, ty_tuple_str, ty_tuple_list, ty_tuple_tuple, ty_dict_non, ty_dict_bool, ty_dict_int, ty_dict_str, ty_dict_list, ty_dict_tuple, Bool.not_false, Bool.not_true, List.getElem?_cons_zero, List.getElem?_cons_succ, List.set_cons_zero, List.set_cons_succ, br_t, br_f, wipeE, ↓reduceIte]
    exact ⟨⟨hs, hs⟩, by rw [eqv_flat hf]; exact h E⟩
  | bool b =>
    have := last_is (Q := fun x => DD.rt x E) hf hs (h E) E h0 h1 (.inr ⟨b, rfl⟩)
    simp only [h0, h1, isD, Bool.false_eq_true, decide_true, shaped_bool, eqv_bb, and_true, true_and, dStInt, dStTurn, dStNext, dMixed, dWhileS, dForS, dLcS, dStCells, dStPut, dAppPop, dBegun, dSeq, dCut, dNext, dFrzS, dSet, dSetN, dPar, dParN, dParM, dParNN, dDrop, dRet, dRetN, dIfS, dNever, dBreak, dCont, dAug, dApp, dPutL, dAugL, dIxO, dCBO, dOpO, dOpO2, dTupO, dWhile, dgName, dgNil, dgCons, dgTup, dAsg, dSeqI, dScrI, dRng1, dRng2, dRngN, dZip, dEnum, dFor, dLc, dLc2, dYes, dFrz, dVar, dC, dOp, dOpN, dUn, dChain, dNil, dCons, dTup, dCB, dCBN, dCall, dB, dAnd, dOr, dNot, dAndV, dOrV, dNotV, dIf, dNone, dSome, dSl, dIsi, dIsi2, dListR1, dListR2, dLenScr, dCallS, fLt, fLe, fGt, fGe, fSub, fFdiv, fMod, fPow, fIMul, fInt, fInt0, fCmp, fEq, fAdd, fMul, fRepN, fCatN, fNeg, fIs, fIx, fSl, fLen, fAbs, fIntOf, fTwo, fTupOf, fListOf, fIpAdd, DL.seen, ty_int_non, ty_int_bool, ty_int_int, ty_int_str, ty_int_list, ty_int_tuple, ty_bool_non, ty_bool_bool, ty_bool_int, ty_bool_str, ty_bool_list, ty_bool_tuple, ty_str_non, ty_str_bool, ty_str_int, ty_str_str, ty_str_list, ty_str_tuple, ty_list_non, ty_list_bool, ty_list_int, ty_list_str, ty_list_list, ty_list_tuple, ty_tuple_non, ty_tuple_bool, ty_tuple_int, ty_tuple_str, ty_tuple_list, ty_tuple_tuple, ty_dict_non, ty_dict_bool, ty_dict_int, ty_dict_str, ty_dict_list, ty_dict_tuple, Bool.not_false, Bool.not_true, List.getElem?_cons_zero, List.getElem?_cons_succ, List.set_cons_zero, List.set_cons_succ, br_t, br_f, wipeE, ↓reduceIte] at this ⊢
    exact this
  | int i =>
    have := last_is (Q := fun x => DD.rt x E) hf hs (h E) E h0 h1 (.inl ⟨i, rfl⟩)
    simp only [h0, h1, isD, Bool.false_eq_true, decide_true, shaped_bool, eqv_bb, and_true, true_and, dStInt, dStTurn, dStNext, dMixed, dWhileS, dForS, dLcS, dStCells, dStPut, dAppPop, dBegun, dSeq, dCut, dNext, dFrzS, dSet, dSetN, dPar, dParN, dParM, dParNN, dDrop, dRet, dRetN, dIfS, dNever, dBreak, dCont, dAug, dApp, dPutL, dAugL, dIxO, dCBO, dOpO, dOpO2, dTupO, dWhile, dgName, dgNil, dgCons, dgTup, dAsg, dSeqI, dScrI, dRng1, dRng2, dRngN, dZip, dEnum, dFor, dLc, dLc2, dYes, dFrz, dVar, dC, dOp, dOpN, dUn, dChain, dNil, dCons, dTup, dCB, dCBN, dCall, dB, dAnd, dOr, dNot, dAndV, dOrV, dNotV, dIf, dNone, dSome, dSl, dIsi, dIsi2, dListR1, dListR2, dLenScr, dCallS, fLt, fLe, fGt, fGe, fSub, fFdiv, fMod, fPow, fIMul, fInt, fInt0, fCmp, fEq, fAdd, fMul, fRepN, fCatN, fNeg, fIs, fIx, fSl, fLen, fAbs, fIntOf, fTwo, fTupOf, fListOf, fIpAdd, DL.seen, ty_int_non, ty_int_bool, ty_int_int, ty_int_str, ty_int_list, ty_int_tuple, ty_bool_non, ty_bool_bool, ty_bool_int, ty_bool_str, ty_bool_list, ty_bool_tuple, ty_str_non, ty_str_bool, ty_str_int, ty_str_str, ty_str_list, ty_str_tuple, ty_list_non, ty_list_bool, ty_list_int, ty_list_str, ty_list_list, ty_list_tuple, ty_tuple_non, ty_tuple_bool, ty_tuple_int, ty_tuple_str, ty_tuple_list, ty_tuple_tuple, ty_dict_non, ty_dict_bool, ty_dict_int, ty_dict_str, ty_dict_list, ty_dict_tuple, Bool.not_false, Bool.not_true, List.getElem?_cons_zero, List.getElem?_cons_succ, List.set_cons_zero, List.set_cons_succ, br_t, br_f, wipeE, ↓reduceIte] at this ⊢
    exact this
  | str x =>
    simp only [h0, h1, isD, Bool.false_eq_true, decide_true, shaped_bool, eqv_bb, and_true, true_and, dStInt, dStTurn, dStNext, dMixed, dWhileS, dForS, dLcS, dStCells, dStPut, dAppPop, dBegun, dSeq, dCut, dNext, dFrzS, dSet, dSetN, dPar, dParN, dParM, dParNN, dDrop, dRet, dRetN, dIfS, dNever, dBreak, dCont, dAug, dApp, dPutL, dAugL, dIxO, dCBO, dOpO, dOpO2, dTupO, dWhile, dgName, dgNil, dgCons, dgTup, dAsg, dSeqI, dScrI, dRng1, dRng2, dRngN, dZip, dEnum, dFor, dLc, dLc2, dYes, dFrz, dVar, dC, dOp, dOpN, dUn, dChain, dNil, dCons, dTup, dCB, dCBN, dCall, dB, dAnd, dOr, dNot, dAndV, dOrV, dNotV, dIf, dNone, dSome, dSl, dIsi, dIsi2, dListR1, dListR2, dLenScr, dCallS, fLt, fLe, fGt, fGe, fSub, fFdiv, fMod, fPow, fIMul, fInt, fInt0, fCmp, fEq, fAdd, fMul, fRepN, fCatN, fNeg, fIs, fIx, fSl, fLen, fAbs, fIntOf, fTwo, fTupOf, fListOf, fIpAdd, DL.seen, ty_int_non, ty_int_bool, ty_int_int, ty_int_str, ty_int_list, ty_int_tuple, ty_bool_non, ty_bool_bool, ty_bool_int, ty_bool_str, ty_bool_list, ty_bool_tuple, ty_str_non, ty_str_bool, ty_str_int, ty_str_str, ty_str_list, ty_str_tuple, ty_list_non, ty_list_bool, ty_list_int, ty_list_str, ty_list_list, ty_list_tuple, ty_tuple_non, ty_tuple_bool, ty_tuple_int, ty_tuple_str, ty_tuple_list, ty_tuple_tuple, ty_dict_non, ty_dict_bool, ty_dict_int, ty_dict_str, ty_dict_list, ty_dict_tuple, Bool.not_false, Bool.not_true, List.getElem?_cons_zero, List.getElem?_cons_succ, List.set_cons_zero, List.set_cons_succ, br_t, br_f, wipeE, ↓reduceIte]
    exact ⟨⟨hs, hs⟩, by rw [eqv_flat hf]; exact h E⟩
  | list _ => cases hf
  | tuple _ => cases hf
  | dict _ => cases hf
theorem rd_law_is0 : ∀ ds Q, phi_law_is 0 ds Q → d_law_is0 { nx := fun _ => Q .none, rt := fun x _ => Q x } (startE N_law_is.length ds) := by
  rintro ds Q ⟨d, rfl, ⟨hf, hs⟩, h⟩
  show d_law_is0 _ [C.d d, C.d d, .no, .no]
  have key := flat_is (DD := { nx := fun _ => Q .none, rt := fun x _ => Q x }) hf hs (fun _ => h) [C.d d, C.d d, .no, .no] rfl rfl
  unfold d_law_is0
  generalize (dSeq (dIfS (dOr _ _) _ _) _) = rest at key ⊢
  cases d <;> first
    | (cases hf; done)
    | (simp only [Bool.or_false, Bool.false_or, dStInt, dStTurn, dStNext, dMixed, dWhileS, dForS, dLcS, dStCells, dStPut, dAppPop, dBegun, dSeq, dCut, dNext, dFrzS, dSet, dSetN, dPar, dParN, dParM, dParNN, dDrop, dRet, dRetN, dIfS, dNever, dBreak, dCont, dAug, dApp, dPutL, dAugL, dIxO, dCBO, dOpO, dOpO2, dTupO, dWhile, dgName, dgNil, dgCons, dgTup, dAsg, dSeqI, dScrI, dRng1, dRng2, dRngN, dZip, dEnum, dFor, dLc, dLc2, dYes, dFrz, dVar, dC, dOp, dOpN, dUn, dChain, dNil, dCons, dTup, dCB, dCBN, dCall, dB, dAnd, dOr, dNot, dAndV, dOrV, dNotV, dIf, dNone, dSome, dSl, dIsi, dIsi2, dListR1, dListR2, dLenScr, dCallS, fLt, fLe, fGt, fGe, fSub, fFdiv, fMod, fPow, fIMul, fInt, fInt0, fCmp, fEq, fAdd, fMul, fRepN, fCatN, fNeg, fIs, fIx, fSl, fLen, fAbs, fIntOf, fTwo, fTupOf, fListOf, fIpAdd, DL.seen, ty_int_non, ty_int_bool, ty_int_int, ty_int_str, ty_int_list, ty_int_tuple, ty_bool_non, ty_bool_bool, ty_bool_int, ty_bool_str, ty_bool_list, ty_bool_tuple, ty_str_non, ty_str_bool, ty_str_int, ty_str_str, ty_str_list, ty_str_tuple, ty_list_non, ty_list_bool, ty_list_int, ty_list_str, ty_list_list, ty_list_tuple, ty_tuple_non, ty_tuple_bool, ty_tuple_int, ty_tuple_str, ty_tuple_list, ty_tuple_tuple, ty_dict_non, ty_dict_bool, ty_dict_int, ty_dict_str, ty_dict_list, ty_dict_tuple, Bool.not_false, Bool.not_true, List.getElem?_cons_zero, List.getElem?_cons_succ, List.set_cons_zero, List.set_cons_succ, br_t, br_f, wipeE, ↓reduceIte]; exact key)
theorem rd_law_is (n : Nat) : ∀ ds Q, phi_law_is (n + 1) ds Q → d_law_is (phi_law_is n) { nx := fun _ => Q .none, rt := fun x _ => Q x } (startE N_law_is.length ds) := by
  rintro ds Q ⟨d, rfl, ok, h⟩
  show d_law_is _ _ [C.d d, C.d d, .no, .no]
  rcases ok with ⟨hf, hs⟩ | ⟨xs, hx, hl, hr⟩
  · have key := flat_is (DD := { nx := fun _ => Q .none, rt := fun x _ => Q x }) hf hs (fun _ => h) [C.d d, C.d d, .no, .no] rfl rfl
    unfold d_law_is
    generalize (dSeq (dIfS (dOr (dB (dOp (fIs false) _ _)) _) _ _) _) = rest at key ⊢
    cases d <;> first
      | (cases hf; done)
      | (simp only [Bool.or_false, Bool.false_or, dStInt, dStTurn, dStNext, dMixed, dWhileS, dForS, dLcS, dStCells, dStPut, dAppPop, dBegun, dSeq, dCut, dNext, dFrzS, dSet, dSetN, dPar, dParN, dParM, dParNN, dDrop, dRet, dRetN, dIfS, dNever, dBreak, dCont, dAug, dApp, dPutL, dAugL, dIxO, dCBO, dOpO, dOpO2, dTupO, dWhile, dgName, dgNil, dgCons, dgTup, dAsg, dSeqI, dScrI, dRng1, dRng2, dRngN, dZip, dEnum, dFor, dLc, dLc2, dYes, dFrz, dVar, dC, dOp, dOpN, dUn, dChain, dNil, dCons, dTup, dCB, dCBN, dCall, dB, dAnd, dOr, dNot, dAndV, dOrV, dNotV, dIf, dNone, dSome, dSl, dIsi, dIsi2, dListR1, dListR2, dLenScr, dCallS, fLt, fLe, fGt, fGe, fSub, fFdiv, fMod, fPow, fIMul, fInt, fInt0, fCmp, fEq, fAdd, fMul, fRepN, fCatN, fNeg, fIs, fIx, fSl, fLen, fAbs, fIntOf, fTwo, fTupOf, fListOf, fIpAdd, DL.seen, ty_int_non, ty_int_bool, ty_int_int, ty_int_str, ty_int_list, ty_int_tuple, ty_bool_non, ty_bool_bool, ty_bool_int, ty_bool_str, ty_bool_list, ty_bool_tuple, ty_str_non, ty_str_bool, ty_str_int, ty_str_str, ty_str_list, ty_str_tuple, ty_list_non, ty_list_bool, ty_list_int, ty_list_str, ty_list_list, ty_list_tuple, ty_tuple_non, ty_tuple_bool, ty_tuple_int, ty_tuple_str, ty_tuple_list, ty_tuple_tuple, ty_dict_non, ty_dict_bool, ty_dict_int, ty_dict_str, ty_dict_list, ty_dict_tuple, Bool.not_false, Bool.not_true, List.getElem?_cons_zero, List.getElem?_cons_succ, List.set_cons_zero, List.set_cons_succ, br_t, br_f, wipeE, ↓reduceIte]; exact key)
  · have zl : (zipD xs xs).length < sizeLine := by rw [zipD_len, sizeLine_eq]; omega
    have zs : ∀ (i : Nat) (x : PyData) (acc : List PyData), (zipD xs xs)[i]? = some x → acc = [] → ∃ a, x = .tuple [a, a] ∧ okIs n a := by
      intro i x acc hx _
      obtain ⟨a, b, h1, h2, rfl⟩ := zipD_at hx
      rw [h1] at h2
      cases h2
      exact ⟨a, rfl, hr a (List.mem_of_getElem? h1)⟩
    rcases hx with rfl | rfl
    · simp only [d_law_is, Bool.or_false, Bool.false_or, Bool.or_true, shaped_bool, eqv_bb, and_true, true_and, Bool.false_eq_true, decide_true, dStInt, dStTurn, dStNext, dMixed, dWhileS, dForS, dLcS, dStCells, dStPut, dAppPop, dBegun, dSeq, dCut, dNext, dFrzS, dSet, dSetN, dPar, dParN, dParM, dParNN, dDrop, dRet, dRetN, dIfS, dNever, dBreak, dCont, dAug, dApp, dPutL, dAugL, dIxO, dCBO, dOpO, dOpO2, dTupO, dWhile, dgName, dgNil, dgCons, dgTup, dAsg, dSeqI, dScrI, dRng1, dRng2, dRngN, dZip, dEnum, dFor, dLc, dLc2, dYes, dFrz, dVar, dC, dOp, dOpN, dUn, dChain, dNil, dCons, dTup, dCB, dCBN, dCall, dB, dAnd, dOr, dNot, dAndV, dOrV, dNotV, dIf, dNone, dSome, dSl, dIsi, dIsi2, dListR1, dListR2, dLenScr, dCallS, fLt, fLe, fGt, fGe, fSub, fFdiv, fMod, fPow, fIMul, fInt, fInt0, fCmp, fEq, fAdd, fMul, fRepN, fCatN, fNeg, fIs, fIx, fSl, fLen, fAbs, fIntOf, fTwo, fTupOf, fListOf, fIpAdd, DL.seen, ty_int_non, ty_int_bool, ty_int_int, ty_int_str, ty_int_list, ty_int_tuple, ty_bool_non, ty_bool_bool, ty_bool_int, ty_bool_str, ty_bool_list, ty_bool_tuple, ty_str_non, ty_str_bool, ty_str_int, ty_str_str, ty_str_list, ty_str_tuple, ty_list_non, ty_list_bool, ty_list_int, ty_list_str, ty_list_list, ty_list_tuple, ty_tuple_non, ty_tuple_bool, ty_tuple_int, ty_tuple_str, ty_tuple_list, ty_tuple_tuple, ty_dict_non, ty_dict_bool, ty_dict_int, ty_dict_str, ty_dict_list, ty_dict_tuple, Bool.not_false, Bool.not_true, List.getElem?_cons_zero, List.getElem?_cons_succ, List.set_cons_zero, List.set_cons_succ, br_t, br_f, wipeE, ↓reduceIte]
      refine ⟨rfl, fun i acc => acc = [], rfl, zl, fun i x acc hx hw => ?_, fun acc hw => ?_⟩
      · obtain ⟨a, rfl, oka⟩ := zs i x acc hx hw
        simp only [dStInt, dStTurn, dStNext, dMixed, dWhileS, dForS, dLcS, dStCells, dStPut, dAppPop, dBegun, dSeq, dCut, dNext, dFrzS, dSet, dSetN, dPar, dParN, dParM, dParNN, dDrop, dRet, dRetN, dIfS, dNever, dBreak, dCont, dAug, dApp, dPutL, dAugL, dIxO, dCBO, dOpO, dOpO2, dTupO, dWhile, dgName, dgNil, dgCons, dgTup, dAsg, dSeqI, dScrI, dRng1, dRng2, dRngN, dZip, dEnum, dFor, dLc, dLc2, dYes, dFrz, dVar, dC, dOp, dOpN, dUn, dChain, dNil, dCons, dTup, dCB, dCBN, dCall, dB, dAnd, dOr, dNot, dAndV, dOrV, dNotV, dIf, dNone, dSome, dSl, dIsi, dIsi2, dListR1, dListR2, dLenScr, dCallS, fLt, fLe, fGt, fGe, fSub, fFdiv, fMod, fPow, fIMul, fInt, fInt0, fCmp, fEq, fAdd, fMul, fRepN, fCatN, fNeg, fIs, fIx, fSl, fLen, fAbs, fIntOf, fTwo, fTupOf, fListOf, fIpAdd, DL.seen, ty_int_non, ty_int_bool, ty_int_int, ty_int_str, ty_int_list, ty_int_tuple, ty_bool_non, ty_bool_bool, ty_bool_int, ty_bool_str, ty_bool_list, ty_bool_tuple, ty_str_non, ty_str_bool, ty_str_int, ty_str_str, ty_str_list, ty_str_tuple, ty_list_non, ty_list_bool, ty_list_int, ty_list_str, ty_list_list, ty_list_tuple, ty_tuple_non, ty_tuple_bool, ty_tuple_int, ty_tuple_str, ty_tuple_list, ty_tuple_tuple, ty_dict_non, ty_dict_bool, ty_dict_int, ty_dict_str, ty_dict_list, ty_dict_tuple, Bool.not_false, Bool.not_true, List.getElem?_cons_zero, List.getElem?_cons_succ, List.set_cons_zero, List.set_cons_succ, br_t, br_f, wipeE, ↓reduceIte]
        refine ⟨rfl, a, rfl, oka, ?_⟩
        simp only [dStInt, dStTurn, dStNext, dMixed, dWhileS, dForS, dLcS, dStCells, dStPut, dAppPop, dBegun, dSeq, dCut, dNext, dFrzS, dSet, dSetN, dPar, dParN, dParM, dParNN, dDrop, dRet, dRetN, dIfS, dNever, dBreak, dCont, dAug, dApp, dPutL, dAugL, dIxO, dCBO, dOpO, dOpO2, dTupO, dWhile, dgName, dgNil, dgCons, dgTup, dAsg, dSeqI, dScrI, dRng1, dRng2, dRngN, dZip, dEnum, dFor, dLc, dLc2, dYes, dFrz, dVar, dC, dOp, dOpN, dUn, dChain, dNil, dCons, dTup, dCB, dCBN, dCall, dB, dAnd, dOr, dNot, dAndV, dOrV, dNotV, dIf, dNone, dSome, dSl, dIsi, dIsi2, dListR1, dListR2, dLenScr, dCallS, fLt, fLe, fGt, fGe, fSub, fFdiv, fMod, fPow, fIMul, fInt, fInt0, fCmp, fEq, fAdd, fMul, fRepN, fCatN, fNeg, fIs, fIx, fSl, fLen, fAbs, fIntOf, fTwo, fTupOf, fListOf, fIpAdd, DL.seen, ty_int_non, ty_int_bool, ty_int_int, ty_int_str, ty_int_list, ty_int_tuple, ty_bool_non, ty_bool_bool, ty_bool_int, ty_bool_str, ty_bool_list, ty_bool_tuple, ty_str_non, ty_str_bool, ty_str_int, ty_str_str, ty_str_list, ty_str_tuple, ty_list_non, ty_list_bool, ty_list_int, ty_list_str, ty_list_list, ty_list_tuple, ty_tuple_non, ty_tuple_bool, ty_tuple_int, ty_tuple_str, ty_tuple_list, ty_tuple_tuple, ty_dict_non, ty_dict_bool, ty_dict_int, ty_dict_str, ty_dict_list, ty_dict_tuple, Bool.not_false, Bool.not_true, List.getElem?_cons_zero, List.getElem?_cons_succ, List.set_cons_zero, List.set_cons_succ, br_t, br_f, wipeE, ↓reduceIte]
        exact hw
      · rw [show acc = [] from hw]
        exact ⟨⟨shaped_nil, shaped_nil⟩, by rw [eqv_nil]; exact h⟩
    · simp only [d_law_is, Bool.or_false, Bool.false_or, Bool.or_true, Bool.true_or, shaped_bool, eqv_bb, and_true, true_and, Bool.false_eq_true, decide_true, dStInt, dStTurn, dStNext, dMixed, dWhileS, dForS, dLcS, dStCells, dStPut, dAppPop, dBegun, dSeq, dCut, dNext, dFrzS, dSet, dSetN, dPar, dParN, dParM, dParNN, dDrop, dRet, dRetN, dIfS, dNever, dBreak, dCont, dAug, dApp, dPutL, dAugL, dIxO, dCBO, dOpO, dOpO2, dTupO, dWhile, dgName, dgNil, dgCons, dgTup, dAsg, dSeqI, dScrI, dRng1, dRng2, dRngN, dZip, dEnum, dFor, dLc, dLc2, dYes, dFrz, dVar, dC, dOp, dOpN, dUn, dChain, dNil, dCons, dTup, dCB, dCBN, dCall, dB, dAnd, dOr, dNot, dAndV, dOrV, dNotV, dIf, dNone, dSome, dSl, dIsi, dIsi2, dListR1, dListR2, dLenScr, dCallS, fLt, fLe, fGt, fGe, fSub, fFdiv, fMod, fPow, fIMul, fInt, fInt0, fCmp, fEq, fAdd, fMul, fRepN, fCatN, fNeg, fIs, fIx, fSl, fLen, fAbs, fIntOf, fTwo, fTupOf, fListOf, fIpAdd, DL.seen, ty_int_non, ty_int_bool, ty_int_int, ty_int_str, ty_int_list, ty_int_tuple, ty_bool_non, ty_bool_bool, ty_bool_int, ty_bool_str, ty_bool_list, ty_bool_tuple, ty_str_non, ty_str_bool, ty_str_int, ty_str_str, ty_str_list, ty_str_tuple, ty_list_non, ty_list_bool, ty_list_int, ty_list_str, ty_list_list, ty_list_tuple, ty_tuple_non, ty_tuple_bool, ty_tuple_int, ty_tuple_str, ty_tuple_list, ty_tuple_tuple, ty_dict_non, ty_dict_bool, ty_dict_int, ty_dict_str, ty_dict_list, ty_dict_tuple, Bool.not_false, Bool.not_true, List.getElem?_cons_zero, List.getElem?_cons_succ, List.set_cons_zero, List.set_cons_succ, br_t, br_f, wipeE, ↓reduceIte]
      refine ⟨rfl, fun i acc => acc = [], rfl, zl, fun i x acc hx hw => ?_, fun acc hw => ?_⟩
      · obtain ⟨a, rfl, oka⟩ := zs i x acc hx hw
        simp only [dStInt, dStTurn, dStNext, dMixed, dWhileS, dForS, dLcS, dStCells, dStPut, dAppPop, dBegun, dSeq, dCut, dNext, dFrzS, dSet, dSetN, dPar, dParN, dParM, dParNN, dDrop, dRet, dRetN, dIfS, dNever, dBreak, dCont, dAug, dApp, dPutL, dAugL, dIxO, dCBO, dOpO, dOpO2, dTupO, dWhile, dgName, dgNil, dgCons, dgTup, dAsg, dSeqI, dScrI, dRng1, dRng2, dRngN, dZip, dEnum, dFor, dLc, dLc2, dYes, dFrz, dVar, dC, dOp, dOpN, dUn, dChain, dNil, dCons, dTup, dCB, dCBN, dCall, dB, dAnd, dOr, dNot, dAndV, dOrV, dNotV, dIf, dNone, dSome, dSl, dIsi, dIsi2, dListR1, dListR2, dLenScr, dCallS, fLt, fLe, fGt, fGe, fSub, fFdiv, fMod, fPow, fIMul, fInt, fInt0, fCmp, fEq, fAdd, fMul, fRepN, fCatN, fNeg, fIs, fIx, fSl, fLen, fAbs, fIntOf, fTwo, fTupOf, fListOf, fIpAdd, DL.seen, ty_int_non, ty_int_bool, ty_int_int, ty_int_str, ty_int_list, ty_int_tuple, ty_bool_non, ty_bool_bool, ty_bool_int, ty_bool_str, ty_bool_list, ty_bool_tuple, ty_str_non, ty_str_bool, ty_str_int, ty_str_str, ty_str_list, ty_str_tuple, ty_list_non, ty_list_bool, ty_list_int, ty_list_str, ty_list_list, ty_list_tuple, ty_tuple_non, ty_tuple_bool, ty_tuple_int, ty_tuple_str, ty_tuple_list, ty_tuple_tuple, ty_dict_non, ty_dict_bool, ty_dict_int, ty_dict_str, ty_dict_list, ty_dict_tuple, Bool.not_false, Bool.not_true, List.getElem?_cons_zero, List.getElem?_cons_succ, List.set_cons_zero, List.set_cons_succ, br_t, br_f, wipeE, ↓reduceIte]
        refine ⟨rfl, a, rfl, oka, ?_⟩
        simp only [dStInt, dStTurn, dStNext, dMixed, dWhileS, dForS, dLcS, dStCells, dStPut, dAppPop, dBegun, dSeq, dCut, dNext, dFrzS, dSet, dSetN, dPar, dParN, dParM, dParNN, dDrop, dRet, dRetN, dIfS, dNever, dBreak, dCont, dAug, dApp, dPutL, dAugL, dIxO, dCBO, dOpO, dOpO2, dTupO, dWhile, dgName, dgNil, dgCons, dgTup, dAsg, dSeqI, dScrI, dRng1, dRng2, dRngN, dZip, dEnum, dFor, dLc, dLc2, dYes, dFrz, dVar, dC, dOp, dOpN, dUn, dChain, dNil, dCons, dTup, dCB, dCBN, dCall, dB, dAnd, dOr, dNot, dAndV, dOrV, dNotV, dIf, dNone, dSome, dSl, dIsi, dIsi2, dListR1, dListR2, dLenScr, dCallS, fLt, fLe, fGt, fGe, fSub, fFdiv, fMod, fPow, fIMul, fInt, fInt0, fCmp, fEq, fAdd, fMul, fRepN, fCatN, fNeg, fIs, fIx, fSl, fLen, fAbs, fIntOf, fTwo, fTupOf, fListOf, fIpAdd, DL.seen, ty_int_non, ty_int_bool, ty_int_int, ty_int_str, ty_int_list, ty_int_tuple, ty_bool_non, ty_bool_bool, ty_bool_int, ty_bool_str, ty_bool_list, ty_bool_tuple, ty_str_non, ty_str_bool, ty_str_int, ty_str_str, ty_str_list, ty_str_tuple, ty_list_non, ty_list_bool, ty_list_int, ty_list_str, ty_list_list, ty_list_tuple, ty_tuple_non, ty_tuple_bool, ty_tuple_int, ty_tuple_str, ty_tuple_list, ty_tuple_tuple, ty_dict_non, ty_dict_bool, ty_dict_int, ty_dict_str, ty_dict_list, ty_dict_tuple, Bool.not_false, Bool.not_true, List.getElem?_cons_zero, List.getElem?_cons_succ, List.set_cons_zero, List.set_cons_succ, br_t, br_f, wipeE, ↓reduceIte]
        exact hw
      · rw [show acc = [] from hw]
        exact ⟨⟨shaped_nil, shaped_nil⟩, by rw [eqv_nil]; exact h⟩
theorem ok_int (n : Nat) (i : Int) : okIs n (.int i) := by
  cases n with
  | zero => exact ⟨rfl, shaped_int i⟩
  | succ n => exact .inl ⟨rfl, shaped_int i⟩
theorem ok_ints (n : Nat) {ns : List Int} (h : ns.length ≤ 100000) : okIs (n + 1) (.list (iL ns)) :=
  .inr ⟨_, .inl rfl, by rw [iL_len]; exact h, fun x hx => by
    obtain ⟨i, _, rfl⟩ := List.mem_map.mp hx
    exact ok_int n i⟩
end DL


namespace DL
open PySem PySem.Spec PyProof.Rows L2
open Evl (Ex)
section
variable {X : Cx} {K : PySem.W.Frag} {e a : Expr} {te ta : TE} {de da : DE} {tt : TT} {dt : DT} {bu : Nat} {σ : L2.St} {H G R : Hp} {E : Env} {pos p : Pos}
/-! ### xs[::-1] -/
def dRev (de : DE) : DN := ⟨fun E P => de E fun x => match x with
  | .list xs => P xs.reverse
  | _ => False, de.cost⟩
theorem sim_rev (h : Sim K te de) : SimN K (tRevL K te) (dRev de) := by
  intro bu σ H G R E Q P r hd k
  refine h _ σ H G R E _ _ r hd fun v d H' G' l r' hv hp => ?_
  split at hp
  · obtain ⟨b, us, rfl, ha, hq⟩ := hv.list_inv
    refine ⟨b, us, rfl, .inl (.inl (r'.gh _ _ ha)), fun p hn => ?_⟩
    exact k p us.reverse _ _ G' l (ex_none r'.rh hn) (ex_none r'.gh hn) (r'.hold hn) hq.reverse hp
  · exact hp.elim
theorem pn_rev {k : Nat} {p1 p2 p3 : Pos} (h : PD X K e te de) (hK : X.K = K := by rfl) : PN X K (.Subscript e (.Slice none none (some (.UnaryOp .USub (.Constant (.int 1) k p1) p2)) p3) pos) (tRevL K te) (dRev de) := by
  subst hK
  exact ⟨pe_revL h.pe, sim_rev h.sim⟩
/-! ### a name that holds one of two defs -/
theorem Rel.setV {i : Nat} {f : Addr} (r : Rel K bu σ H G R E) : Rel K bu (σ.set i (some (.ref f))) H G R (E.set i (.v f)) := by
  obtain ⟨fps, c, n, d⟩ := r.fps
  exact ⟨r.gh, r.rh, fps.set i [], c.set (fp := []) (v := some (.ref f)) (c := .v f) ⟨rfl, rfl⟩ i, n.sublist (flat_set_sub fps i), fun a ha => d a ((flat_set_sub fps i).subset ha)⟩
theorem Rel.isV {i : Nat} {f : Addr} (r : Rel K bu σ H G R E) (h : E[i]? = some (.v f)) : σ[i]? = some (some (.ref f)) := by
  obtain ⟨v, fp, h1, _, e⟩ := r.get h
  rw [h1, e]
/-- x, y = data, f if test else g -/
def dParV (i j : Nat) (da : DE) (dt : DT) (f g : Addr) : DS := ⟨fun DD E => da E fun x => dt E fun b => DD.nx ((E.set i (.d x)).set j (.v (if b = true then f else g))), da.cost + dt.cost⟩
theorem sims_parV {i j : Nat} {f g : Addr} (h : Sim K ta da) (h' : SimT K tt dt) : SimS K (tPar i j (tCons ta (tCons (tIf tt (tC (.ref f)) (tC (.ref g))) tNil))) (dParV i j da dt f g) := fun bu DD D σ H G R E r hd k => by
  refine h _ σ H G R E _ _ r.two hd fun v d H1 G1 l1 r1 hv hd1 => ?_
  refine h' _ σ H1 G1 R E _ _ r1 hd1 fun b H2 G2 l2 r2 hp => ?_
  have q := k.nx _ H2 G2 _ (l1.trans l2) ((r2.set (i := i) (hv.mono l2.1)).setV (i := j) (f := if b = true then f else g)) hp
  cases b with
  | true => exact ⟨_, _, rfl, q⟩
  | false => exact ⟨_, _, rfl, q⟩
theorem s_parV (i j : Nat) {x y u v : Str} {f g : Addr} {c : Expr} {px py pt q1 q2 q3 : Pos} {kt k2 pt2} (nd : X.N.Nodup) (h : PD X K a ta da) (h' : PTD X K c tt dt) (hu : X.mg u = some (.ref f)) (hv : X.mg v = some (.ref g)) (hgu : Gl X u := by rfl) (hgv : Gl X v := by rfl)
    (hi : X.N[i]? = some x := by rfl) (hj : X.N[j]? = some y := by rfl) (hij : i ≠ j := by decide) (hx : X.env.scope.names.lookup x = some .local := by rfl) (hy : X.env.scope.names.lookup y = some .local := by rfl)
    (hw : swappedStores [.Tuple [.Name x px, .Name y py] kt pt] (.Tuple [a, .IfExp c (.Name u q1) (.Name v q2) q3] k2 pt2) X.env = pure (some [x, y]) := by rfl) (hc : X.calm = true := by rfl) (hs : swapsWithSole [.Tuple [.Name x px, .Name y py] kt pt] (.Tuple [a, .IfExp c (.Name u q1) (.Name v q2) q3] k2 pt2) pos.line X.env = pure false := by rfl)
    (h1 : starEach (a :: [.IfExp c (.Name u q1) (.Name v q2) q3]) X.env = (false, eval a X.env) :: starEach [.IfExp c (.Name u q1) (.Name v q2) q3] X.env := by rfl) (h2 : starEach (.IfExp c (.Name u q1) (.Name v q2) q3 :: []) X.env = (false, eval (.IfExp c (.Name u q1) (.Name v q2) q3) X.env) :: starEach [] X.env := by rfl)
    (hdu : (u == ("__debug__" : Str)) = false := by decide) (hdv : (v == ("__debug__" : Str)) = false := by decide) :
    PSD X K (.Assign [.Tuple [.Name x px, .Name y py] kt pt] (.Tuple [a, .IfExp c (.Name u q1) (.Name v q2) q3] k2 pt2) pos) (tPar i j (tCons ta (tCons (tIf tt (tC (.ref f)) (tC (.ref g))) tNil))) (dParV i j da dt f g) :=
  ⟨ps_par hc nd hi hj hij hx hy (L2.pa_cons h.pe (L2.pa_cons (pe_ifExp h'.pt (pe_glob hgu hu rfl hdu) (pe_glob hgv hv rfl hdv)) L2.pa_nil h2) h1) hw hs, sims_parV h.sim h'.sim⟩
/-- its call -/
abbrev Phi := List PyData → (PyData → Prop) → Prop
def dCallV (i : Nat) (S : Addr → Option Phi) (da : DN) : DE := ⟨fun E P => match E[i]? with
  | some (.v f) => ∃ φ, S f = some φ ∧ da E fun ds => φ ds P
  | _ => False, da.cost⟩
theorem sim_callV {i n : Nat} {S : Addr → Option Phi} {ta : TA} {da : DN} (ha : SimA K n ta da) : Sim K (tCallA i (fun f => (S f).map (spD K)) ta) (dCallV i S da) := by
  intro bu σ H G R E Q P r hd k
  simp only [dCallV] at hd
  split at hd
  · rename_i f e
    obtain ⟨φ, hf, hd⟩ := hd
    refine ⟨f, spD K φ, r.isV e, by show (S f).map (spD K) = _; rw [hf]; rfl, ?_⟩
    refine ha _ σ H G R E _ _ r hd fun vs ds H1 G1 hl l1 r1 hx hd1 => ?_
    exact ⟨G1, ds, P, r1.gh, hx, hd1, fun d v H2 G2 hp g hv => k v d H2 G2 (l1.trans (g.le r1.rh)) (r1.grow g) hv hp⟩
  · exact hd.elim
theorem pd_callV (i : Nat) {x : Str} {j : Nat} {es : List Expr} {n : Nat} {S : Addr → Option Phi} {t : TA} {d : DN} (A : ∀ f φ, S f = some φ → Held X.prog X.w X.K X.mg X.base j f (spD K φ)) (hr : Room j X.A) (ha : PAD X K (e :: es) n t d) (hN : X.N[i]? = some x := by rfl) (hv : Vis X.env.scope x := by first | exact Or.inl rfl | exact Or.inr (Or.inl rfl) | exact Or.inr (Or.inr rfl))
    (hdb : (x == ("__debug__" : Str)) = false := by decide) (hcd : (x == ("__classdict__" : Str)) = false := by decide)
    (he : starEach (e :: es) X.env = (false, eval e X.env) :: starEach es X.env := by rfl) (hpl : (backTo pos (starEach es X.env)).any (·.1) = false := by rfl) : PD X K (.Call (.Name x p) (e :: es) [] pos) (tCallA i (fun f => (S f).map (spD K)) t) (dCallV i S d) :=
  ⟨pe_callA (S := fun f => (S f).map (spD K)) (fun f sp h => by
    obtain ⟨φ, h1, rfl⟩ := Option.map_eq_some_iff.mp h
    exact A f φ h1) hr hN hv ha.pa hdb hcd he hpl, sim_callV ha.sim⟩
/-- two defs that are held: one or the other -/
def two (f g : Addr) (φ ψ : Phi) : Addr → Option Phi := fun a => if a = f then some φ else if a = g then some ψ else none
theorem two_fst {f g : Addr} {φ ψ : Phi} : two f g φ ψ f = some φ := if_pos rfl
theorem two_snd {f g : Addr} {φ ψ : Phi} (h : f ≠ g) : two f g φ ψ g = some ψ := (if_neg (Ne.symm h)).trans (if_pos rfl)
theorem two_held {P : Program} {w : World} {mg : Str → Option Value} {base : Heap} {j k : Nat} {x y : Str} {f g : Addr} {φ ψ : Phi} (hx : Fn P w K mg base k x (spD K φ)) (hy : Fn P w K mg base k y (spD K ψ)) (ex : mg x = some (.ref f)) (ey : mg y = some (.ref g)) (hk : k ≤ j := by decide) :
    ∀ a χ, two f g φ ψ a = some χ → Held P w K mg base j a (spD K χ) := by
  intro a χ h
  unfold two at h
  obtain ⟨f1, fd1, ps1, F1, m1, k1, b1⟩ := hx.ex
  obtain ⟨f2, fd2, ps2, F2, m2, k2, b2⟩ := hy.ex
  split at h
  · rename_i e
    cases h
    rw [ex] at m1
    cases m1
    subst e
    exact ⟨fd1, ps1, F1.mono hk, k1, b1⟩
  · split at h
    · rename_i _ e
      cases h
      rw [ey] at m2
      cases m2
      subst e
      exact ⟨fd2, ps2, F2.mono hk, k2, b2⟩
    · cases h
/-- defs of two names are two -/
theorem fund_ne {x y q r : Str} {p1 p2 : Arguments} {b1 b2 : List Stmt} {s1 s2 : Scope} {f g : Addr} {fd gd : FuncData} (F : FunD K x q p1 b1 s1 [] [] f fd) (F2 : FunD K y r p2 b2 s2 [] [] g gd) (h : x ≠ y) : f ≠ g := by
  rintro rfl
  obtain ⟨_, _, _, _, _, _, _, _, _, _, e1, h1, _⟩ := F.ex
  obtain ⟨_, _, _, _, _, _, _, _, _, _, e2, h2, _⟩ := F2.ex
  rw [h1] at h2
  cases h2
  rw [e1] at e2
  exact h (congrArg FuncData.name e2)
end
end DL

/-! DLq: what is raised: raise, defs that raise, _law_caught(lambda: ..), what is asked of a caught error -/
namespace DL
open PySem PySem.Spec PyProof.Rows L2
open Evl (Ex)
open LamX (CodeO TabB LamS lamEnv lamCx)
/-! ### raise D(e) -/
def tRaise1 (K : PySem.W.Frag) (W : XK) (D : Addr) (fld : Str) (ta : TA) : TS := fun _ σ H => tMkO D (spI K D fld) [] ta σ H fun cls d H' => W cls d H'
def dRaise1 (W : XK) (D : Addr) (fld : Str) (da : DE) : DS := ⟨fun DD E => DD.wx = W ∧ da E fun x => match x with
  | .int i => DD.rx D [(fld, .int i)]
  | _ => False, da.cost⟩
section
variable {K : PySem.W.Frag} {te : TE} {de : DE}
theorem sims_raise1 {W : XK} {D : Addr} {fld : Str} (T : OexC K D) (no : PySem.W.findIn K (.ref D) fld = some none) (h : Sim K te de) : SimS K (tRaise1 K W D fld (tCons te tNil)) (dRaise1 W D fld de) := by
  intro bu DD Dn σ H G R E r hd k
  obtain ⟨ew, hd⟩ := hd
  refine h bu σ H G R E _ _ r hd fun v d H1 G1 l r1 hv hp => ?_
  cases d with
  | int i =>
    rw [hv.int_inv]
    refine ⟨(show 1 ≤ 1000 by decide), fun a ha => ⟨a, .int i, rfl, upd_same, T, no, fun dx hx ne => ⟨rfl, dx, [(fld, .int i)], upd_same, by rw [upd_ne ne, upd_same], by rw [upd_ne ne] at hx; exact hx, ?_⟩⟩⟩
    have hdx : H1 dx = none := by rw [upd_ne ne] at hx; exact hx
    have eh : upd (del (upd (upd (upd H1 a (exo a D none)) dx (exd dx [(fld, .int i)])) a (exo a D (some dx))) a) dx (.xd [(fld, .int i)]) = upd H1 dx (.xd [(fld, .int i)]) := by
      funext b
      by_cases e1 : b = dx
      · rw [e1, upd_same, upd_same]
      · rw [upd_ne e1, upd_ne e1]
        by_cases e2 : b = a
        · rw [e2, del_same, ha]
        · rw [del_ne e2, upd_ne e2, upd_ne e1, upd_ne e2]
    have g := Grow.one (o := .xd [(fld, .int i)]) r1.gh hdx
    have q := k.rx D [(fld, .int i)] (some dx) σ _ _ E (l.trans (g.le r1.rh)) (r1.grow g) upd_same hp
    rw [ew] at q
    rw [eh]
    exact q
  | _ => exact hp.elim
end
/-- an own class of errors with an own __init__ that stores one field -/
structure Mk1 (P : Program) (w : World) (K : PySem.W.Frag) (mg : Str → Option Value) (base : Heap) (k : Nat) (x fld : Str) (D : Addr) : Prop where
  nm : mg x = some (.ref D)
  er : ErrC K D
  no : PySem.W.findIn K (.ref D) fld = some none
  ini : ∃ (fI : Addr) (fd : FuncData) (ps : List Str), PySem.W.findIn K (.ref D) "__init__" = some (some (.ref fI)) ∧ PySem.W.typeIn K (.ref fI) = some (.type "function") ∧ FnOk P w K mg base L2.CX0 k fI fd ps (spI K D fld) ∧ Binds K fd ps []
theorem s_raise1 {X : Cx} {K : PySem.W.Frag} {e : Expr} {te : TE} {de : DE} {W : XK} {D : Addr} {fld x : Str} {k m : Nat} {p pos pos2 : Pos} (M : Mk1 X.prog X.w X.K X.mg X.base k x fld D) (tk : Takes X fun cls d _ H => W cls d H) (hr : Room m X.A) (h : PD X K e te de) (hk : k + 1 ≤ m := by decide)
    (hg : Gl X x := by rfl) (hc : X.calm = true := by rfl) (hdb : (x == ("__debug__" : Str)) = false := by decide) (he : starEach (e :: []) X.env = (false, eval e X.env) :: starEach [] X.env := by rfl) (hpl : (backTo pos (starEach [] X.env)).any (·.1) = false := by rfl) (hK : X.K = K := by rfl) :
    PSD X K (.Raise (some (.Call (.Name x p) [e] [] pos)) none pos2) (tRaise1 K W D fld (tCons te tNil)) (dRaise1 W D fld de) := by
  subst hK
  obtain ⟨fI, fd, ps, i1, i2, F, b⟩ := M.ini
  exact ⟨ps_raise hc tk (pmk_oex M.er.oex i1 i2 F (hr.mono hk) b .nil L2.pass0 hg M.nm (L2.pa_cons h.pe L2.pa_nil he) hdb he hpl), sims_raise1 M.er.oex M.no h.sim⟩
/-! ### defs that raise -/
abbrev PhX := List PyData → (PyData → Prop) → (Addr → List (Str × V) → Prop) → Prop
def spX (K : PySem.W.Frag) (φ : PhX) : Sp := fun vs H Q W => ∃ (G : Hp) (ds : List PyData) (P : PyData → Prop) (Z : Addr → List (Str × V) → Prop), Ex G H ∧ Dvs K G vs ds ∧ φ ds P Z ∧ (∀ d v H' G', P d → Grow G H G' H' → Dv K G' v d → Q v H') ∧
  ∀ C fs d H' G', Z C fs → Grow G H G' H' → XdOk G' d fs → W (.ref C) d H'
section
variable {P : Program} {w : World} {K : PySem.W.Frag} {mg : Str → Option Value} {base : Heap} {x qual : Str} {params : Arguments} {body : List Stmt} {scope : Scope} {f : Addr} {fd : FuncData} {N ps : List Str} {k : Nat}
theorem fn_X {φ : PhX} (F : FunD K x qual params body scope [] [] f fd) (S : FnScope N ps scope) (hφ : ∀ ds Q Z, φ ds Q Z → ds.length = ps.length)
    (hbody : ∀ (cdv : Value) (A : Around) (outer : List PySem.Env) (s : Shared) (H : Hp) (E : XK), Room k (A.deeper (envOfC qual scope s.heap.objs.size f cdv)) →
      ∃ t d, PSsD (cxOf (L2.CX P w) P w K mg base N qual scope f cdv A outer s H E) K body t d ∧ d.cost = 0 ∧ ∀ ds Q Z, φ ds Q Z → d { nx := fun _ => Q .none, rt := fun x _ => Q x, wx := E, rx := Z } (startE N.length ds)) :
    FnOk P w K mg base (L2.CX P w) (k + 1) f fd ps (spX K φ) := by
  refine F.ok S (fun vs H Q E h => ?_) (fun cdv A outer s H vs Q E hr h => ?_)
  · obtain ⟨G, ds, _, _, _, hv, hp, _⟩ := h
    rw [hv.length]
    exact hφ ds _ _ hp
  · obtain ⟨G, ds, Pq, Z, eg, hv, hp, fin, finX⟩ := h
    obtain ⟨t, d, hps, hc, hread⟩ := hbody cdv A outer s H E hr
    refine ⟨t, hps.ps, ?_⟩
    refine hps.sim 0 _ _ (L2.start N vs) H G H (startE N.length ds) (rel_start eg (Ex.refl H) hv) (hread ds _ _ hp) ⟨fun σ' H' G' E' l r hn => ?_, fun v d' σ' H' G' E' l r hv' hn => ?_, fun _ _ _ _ _ _ h => h.elim, fun _ _ _ _ _ _ h => h.elim, fun C fs d σ' H' G' E' l r hx hz => ?_⟩
    · exact fin _ _ _ _ hn ⟨l.1, r.rh, r.gh, l.2⟩ .non
    · exact fin _ _ _ _ hn ⟨l.1, r.rh, r.gh, l.2⟩ hv'
    · exact finX _ _ _ _ _ hz ⟨l.1, r.rh, r.gh, l.2⟩ hx
end
structure FnX (P : Program) (w : World) (K : PySem.W.Frag) (mg : Str → Option Value) (base : Heap) (k : Nat) (x : Str) (φ : PhX) : Prop where
  ex : ∃ (f : Addr) (fd : FuncData) (ps : List Str), FnOk P w K mg base (L2.CX P w) k f fd ps (spX K φ) ∧ mg x = some (.ref f) ∧ PySem.W.keepIn K (.ref f) = true ∧ Binds K fd ps []
theorem FnX.mk' {P : Program} {w : World} {K : PySem.W.Frag} {mg : Str → Option Value} {base : Heap} {k : Nat} {x : Str} {φ : PhX} {f : Addr} {fd : FuncData} {ps : List Str} (h : FnOk P w K mg base (L2.CX P w) k f fd ps (spX K φ)) (g : mg x = some (.ref f)) (kp : PySem.W.keepIn K (.ref f) = true) (b : Binds K fd ps []) : FnX P w K mg base k x φ :=
  ⟨⟨f, fd, ps, h, g, kp, b⟩⟩
/-! ### the body of a lambda -/
structure DX where
  run : Env → (Env → Prop) → (Addr → List (Str × V) → Env → Prop) → Prop
  cost : Nat := 0
def SimX (K : PySem.W.Frag) (t : XK → TE) (dx : DX) : Prop := ∀ (bu : Nat) (σ : L2.St) (H G R : Hp) (E : Env) (Q : VK) (W : XK) (P : Env → Prop) (Z : Addr → List (Str × V) → Env → Prop), Rel K (bu + dx.cost) σ H G R E → dx.run E P Z →
  (∀ v H' G' E', Le R G G' → Rel K bu σ H' G' R E' → P E' → Q v H') → (∀ C fs d H' G' E', Le R G G' → Rel K bu σ H' G' R E' → XdOk G' d fs → Z C fs E' → W (.ref C) d H') → t W σ H Q
/-- f(e, ..) -/
def dXCall (φ : PhX) (da : DN) : DX := ⟨fun E P Z => da.run E fun ds => φ ds (fun _ => P E) fun C fs => Z C fs E, da.cost⟩
theorem simx_call {K : PySem.W.Frag} {n : Nat} {φ : PhX} {ta : TA} {da : DN} (ha : SimA K n ta da) : SimX K (fun W => tCall (spX K φ) [] W ta) (dXCall φ da) := by
  intro bu σ H G R E Q W P Z r hd k kx
  refine ha _ σ H G R E _ _ r hd fun vs ds H1 G1 hl l1 r1 hx hd1 => ?_
  show spX K φ (vs ++ []) H1 Q W
  rw [List.append_nil]
  exact ⟨G1, ds, _, _, r1.gh, hx, hd1, fun d v H2 G2 hp g hv => k v H2 G2 E (l1.trans (g.le r1.rh)) (r1.grow g) hp, fun C fs d H2 G2 hz g hx => kx C fs d H2 G2 E (l1.trans (g.le r1.rh)) (r1.grow g) hx hz⟩
/-- found.append(f(e, ..)) -/
def dXApp (i : Nat) (φ : PhX) (da : DN) : DX := ⟨fun E P Z => match E[i]? with
  | some (.l xs) => da.run E fun ds => φ ds (fun y => xs.length < sizeLine ∧ P (E.set i (.l (xs ++ [y])))) fun C fs => Z C fs E
  | _ => False, da.cost⟩
theorem simx_app {K : PySem.W.Frag} {n i : Nat} {φ : PhX} {ta : TA} {da : DN} (ha : SimA K n ta da) : SimX K (fun W => tBM K "list" rAppend (tVar i) (tCons (tCall (spX K φ) [] W ta) tNil)) (dXApp i φ da) := by
  intro bu σ H G R E Q W P Z r hd k kx
  simp only [dXApp] at hd
  split at hd
  · rename_i xs e
    obtain ⟨a, us, h1, h2, h3⟩ := r.lst e
    refine ⟨_, h1, .inl ⟨rfl, us, .inl (.inl h2)⟩, ha _ σ H G R E _ _ r hd fun vs ds H1 G1 hl l1 r1 hx hd1 => ?_⟩
    show spX K φ (vs ++ []) H1 _ W
    rw [List.append_nil]
    refine ⟨G1, ds, _, _, r1.gh, hx, hd1, fun y v H2 G2 hp g hv => ?_, fun C fs d H2 G2 hz g hx => kx C fs d H2 G2 E (l1.trans (g.le r1.rh)) (r1.grow g) hx hz⟩
    have r2 := r1.grow g
    obtain ⟨a', us', h1', h2', h3'⟩ := r2.lst e
    rw [h1] at h1'
    cases h1'
    exact ⟨a, us', v, rfl, rfl, h2', by rw [h3'.length]; exact hp.1, k _ _ G2 _ (l1.trans (g.le r1.rh)) (r2.putL e h1 (h3'.append (.one hv))) hp.2⟩
  · exact hd.elim
/-! ### x = _law_caught(lambda: ..) -/
def dCaught (i j : Nat) (P : Addr) (q : Str) (ok : Addr → Prop) (dx : DX) : DS := ⟨fun DD E => match E[j]? with
  | some (.w _ P' q') => P' = P ∧ q' = q ∧ dx.run E (fun E' => DD.nx (E'.set i (.d .none))) fun C fs E' => ok C ∧ DD.nx (E'.set i (.e C fs))
  | _ => False, dx.cost⟩
theorem sims_caught {K : PySem.W.Frag} {i j : Nat} {P R0 : Addr} {q : Str} {ok : Addr → Prop} {t : XK → TE} {dx : DX} (hok : ∀ C, ok C → PySem.W.exmOne K (.ref C) (.ref R0) = some true) (h : SimX K t dx) : SimS K (tAsg (tLamT P q (tCaught K R0) t) (gName i)) (dCaught i j P q ok dx) := by
  intro bu DD D σ H G R E r hd k
  simp only [dCaught] at hd
  split at hd
  · rename_i ns P' q' e
    obtain ⟨rfl, rfl, hd⟩ := hd
    obtain ⟨v, fp, h1, a, ps, _, _, _, kt⟩ := r.get e
    have kt2 : Kt P' q' H H ps := ⟨kt.at_, kt.tri, fun pos cv z => let ⟨c, e1, e2⟩ := kt.cod pos cv z; ⟨c, e1, r.gh _ _ e2⟩⟩
    refine ⟨ps, kt2, fun H1 kn p hp W' Q' cx cn => ?_⟩
    obtain ⟨G1, l1, r1⟩ := r.lam e kt2 kn
    have gp := ex_none r1.gh hp
    have rp := ex_none r1.rh hp
    have pH : ∀ (G' : Hp), Le (upd R p (.lst [])) G1 G' → G' p = none ∧ Le R G G' := fun G' l => ⟨(l.2 p upd_none).trans gp, l1.trans (l.less (Ex.new rp))⟩
    refine h bu σ _ G1 (upd R p (.lst [])) E Q' W' _ _ (r1.hold hp) hd (fun v H' G' E' l r' hn => ?_) fun C fs d H' G' E' l r' hx hz => ?_
    · obtain ⟨gp', l'⟩ := pH G' l
      refine cn v H' (r'.rh p _ upd_same) fun H2 kp => ?_
      exact k.nx _ H2 G' _ l' ((r'.unhold rp gp' kp).set .non) hn
    · obtain ⟨gp', l'⟩ := pH G' l
      refine cx (.ref C) d H' (hok C hz.1) (r'.rh p _ upd_same) fun b H2 hb kp hb2 => ?_
      obtain ⟨l2, r2⟩ := r'.unholdF rp gp' kp hb hb2
      exact k.nx _ H2 _ _ (l'.trans l2) (r2.setE upd_same (hx.mono l2.1)) hz.2
  · exact hd.elim
/-! ### what is asked of it -/
/-- isinstance(x, T) -/
def dIsE (i : Nat) (ok : Addr → Bool → Prop) : DE := ⟨fun E P => match E[i]? with
  | some (.e C _) => ∃ b, ok C b ∧ P (.bool b)
  | some (.d .none) => P (.bool false)
  | _ => False, 0⟩
def rIsN (K : PySem.W.Frag) : List V → Hp → VK → Prop := fun xs H Q => rIsX K xs H Q ∨ rIsi K xs H Q
theorem sim_isE {K : PySem.W.Frag} {i : Nat} {T : Addr} {ok : Addr → Bool → Prop} (hok : ∀ C b, ok C b → ErrC K C ∧ PySem.W.kitOne K (.ref C) (.ref T) = some b) (hn : PySem.W.kitOne K (.type "NoneType") (.ref T) = some false) : Sim K (tCB (rIsN K) (tCons (tVar i) (tCons (tC (.ref T)) tNil))) (dIsE i ok) := by
  intro bu σ H G R E Q P r hd k
  simp only [dIsE] at hd
  split at hd
  · rename_i C fs e
    obtain ⟨b, hb, hp⟩ := hd
    obtain ⟨a, d, h1, h2, h3⟩ := r.err e
    obtain ⟨T1, T2⟩ := hok C b hb
    refine ⟨_, h1, .inl ⟨a, C, d, .ref T, .ref T, b, rfl, r.gh _ _ h2, fun dd z => ?_, T1, fun u z => z, T2, k _ _ H G (Le.refl R G) r (.bl b) hp⟩⟩
    subst z
    exact ⟨fs, r.gh _ _ h3⟩
  · rename_i e
    obtain ⟨v, h1, h2⟩ := r.dat e
    have ev := h2.non_inv
    subst ev
    exact ⟨_, h1, .inr ⟨.non, .ref T, _, _, false, rfl, .own T, .base .non, hn, k _ _ H G (Le.refl R G) r (.bl false) hd⟩⟩
  · exact hd.elim
theorem pd_isE (i : Nat) {X : Cx} {K : PySem.W.Frag} {x c : Str} {T : Addr} {ok : Addr → Bool → Prop} {px p p2 pos : Pos} (hok : ∀ C b, ok C b → ErrC X.K C ∧ PySem.W.kitOne X.K (.ref C) (.ref T) = some b) (hn : PySem.W.kitOne X.K (.type "NoneType") (.ref T) = some false) (hm : X.mg "isinstance" = none) (hT : X.mg c = some (.ref T))
    (hi : Gl X "isinstance" := by rfl) (hg : Gl X c := by rfl) (hN : X.N[i]? = some x := by rfl) (hv : Vis X.env.scope x := by first | exact Or.inl rfl | exact Or.inr (Or.inl rfl) | exact Or.inr (Or.inr rfl)) (hd : (x == ("__debug__" : Str)) = false := by decide) (hcd : (x == ("__classdict__" : Str)) = false := by decide) (hdc : (c == ("__debug__" : Str)) = false := by decide)
    (hs : starEach (.Name x px :: [.Name c p2]) X.env = (false, eval (.Name x px) X.env) :: starEach [.Name c p2] X.env := by rfl) (hpl : (backTo pos (starEach [.Name c p2] X.env)).any (·.1) = false := by rfl) (hs0 : starEach (.Name c p2 :: []) X.env = (false, eval (.Name c p2) X.env) :: starEach [] X.env := by rfl) (hK : X.K = K := by rfl) :
    PD X K (.Call (.Name "isinstance" p) [.Name x px, .Name c p2] [] pos) (tCB (rIsN K) (tCons (tVar i) (tCons (tC (.ref T)) tNil))) (dIsE i ok) := by
  subst hK
  exact ⟨pe_callB (call_isX.or call_isi) hi hm boot_isinstance (L2.pa_cons (pe_var hN hv hd hcd) (L2.pa_cons (pe_glob hg hT rfl hdc) L2.pa_nil hs0) hs) (he := hs) (hpl := hpl), sim_isE hok hn⟩
/-- x.f, a whole number -/
def dXat (i : Nat) (f : Str) (ok : Addr → Prop) : DE := ⟨fun E P => match E[i]? with
  | some (.e C fs) => ∃ k : Int, ok C ∧ fs.lookup f = some (.int k) ∧ P (.int k)
  | _ => False, 0⟩
theorem pd_xat (i : Nat) {X : Cx} {K : PySem.W.Frag} {x f : Str} {ok : Addr → Prop} {px pos : Pos} (hok : ∀ C, ok C → ErrC X.K C ∧ PySem.W.findIn X.K (.ref C) f = some none) (hN : X.N[i]? = some x := by rfl) (hv : Vis X.env.scope x := by first | exact Or.inl rfl | exact Or.inr (Or.inl rfl) | exact Or.inr (Or.inr rfl))
    (hd : (x == ("__debug__" : Str)) = false := by decide) (hcd : (x == ("__classdict__" : Str)) = false := by decide) (hb : attributeBase (.Name x px) f X.env (eval (.Name x px) X.env) = eval (.Name x px) X.env := by rfl) (hK : X.K = K := by rfl) : PD X K (.Attribute (.Name x px) f pos) (tXat K f (tVar i)) (dXat i f ok) := by
  subst hK
  refine ⟨pe_xat (pe_var hN hv hd hcd) hb, fun bu σ H G R E Q P r hd k => ?_⟩
  simp only [dXat] at hd
  split at hd
  · rename_i C fs e
    obtain ⟨n, hc, hl, hp⟩ := hd
    obtain ⟨a, d, h1, h2, h3⟩ := r.err e
    obtain ⟨T1, T2⟩ := hok C hc
    cases d with
    | none =>
      have z : fs = [] := h3
      subst z
      cases hl
    | some dd => exact ⟨_, h1, a, C, dd, fs, .int n, rfl, r.gh _ _ h2, r.gh _ _ h3, hl, T1.xf, T2, k _ _ H G (Le.refl R G) r (.int n) hp⟩
  · exact hd.elim
/-- x is None, x is not None -/
def dNonE (i : Nat) (neg : Bool) : DE := ⟨fun E P => match E[i]? with
  | some (.e _ _) => P (.bool neg)
  | some (.d d) => P (.bool (if neg then !isD d .none else isD d .none))
  | _ => False, 0⟩
theorem sim_nonE {K : PySem.W.Frag} {i : Nat} {neg : Bool} : Sim K (tOp (rIsC neg) (tVar i) (tC .non)) (dNonE i neg) := by
  intro bu σ H G R E Q P r hd k
  simp only [dNonE] at hd
  split at hd
  · rename_i C fs e
    obtain ⟨a, d, h1, _⟩ := r.err e
    refine ⟨_, h1, .inl rfl, ?_⟩
    have z : decide (V.ref a = V.non) = false := rfl
    rw [z]
    cases neg <;> exact k _ _ H G (Le.refl R G) r (.bl _) hd
  · rename_i d e
    obtain ⟨v, h1, h2⟩ := r.dat e
    refine ⟨_, h1, .inl rfl, ?_⟩
    rw [(dv_is h2).1]
    exact k _ _ H G (Le.refl R G) r (.bl _) hd
  · exact hd.elim
theorem pd_nonE (i : Nat) (neg : Bool) {X : Cx} {K : PySem.W.Frag} {x : Str} {op : CmpOp} {px p2 pos : Pos} {j : Nat} (ho : OpR X (compareOp op) (rIsC neg)) (hN : X.N[i]? = some x := by rfl) (hv : Vis X.env.scope x := by first | exact Or.inl rfl | exact Or.inr (Or.inl rfl) | exact Or.inr (Or.inr rfl)) (hm : behindInMarks op (.Constant .none j p2) = false := by first | exact nomark _ | rfl)
    (hd : (x == ("__debug__" : Str)) = false := by decide) (hcd : (x == ("__classdict__" : Str)) = false := by decide) : PD X K (.Compare (.Name x px) [op] [.Constant .none j p2] pos) (tOp (rIsC neg) (tVar i) (tC .non)) (dNonE i neg) := ⟨pe_cmpR ho (pe_var hN hv hd hcd) pe_non hm, sim_nonE⟩
end DL

/-! DLr: the law with a table of code objects -/
namespace DL
open PySem PySem.Spec PyProof.Rows L2
open Evl (Ex)
open LamX (CodeO TabB LamS lamEnv lamCx)
section
variable {P : Program} {w : World} {K : PySem.W.Frag} {mg : Str → Option Value} {base : Heap} {x qual : Str} {params : Arguments} {body : List Stmt} {scope : Scope} {f : Addr} {fd : FuncData}
/-- the rule for a def whose code object is told -/
theorem fund_okC {CX : CXT} {N ps : List Str} {k : Nat} {sp : Sp} {p : Str × Option Str} (F : FunD K x qual params body scope [] [] (He.fAd K p) fd) (S : FnScope N ps scope) (len : ∀ vs H Q E, sp vs H Q E → vs.length = ps.length)
    (hbody : ∀ (cdv : Value) (A : Around) (outer : List PySem.Env) (s : Shared) (H : Hp) (vs : List V) (Q : VK) (E : XK), cdv = .ref (He.codeOf K p) → Room k (A.deeper (envOfC qual scope s.heap.objs.size (He.fAd K p) cdv)) → sp vs H Q E →
      ∃ t, PSs (cxOf CX P w K mg base N qual scope (He.fAd K p) cdv A outer s H E) body t ∧ t { nx := fun _ H' => Q .non H', rt := Q } (L2.start N vs) H) : FnOk P w K mg base CX (k + 1) (He.fAd K p) fd ps sp := by
  obtain ⟨oc, od, dV, kV, doc, pm, an, cdv, ct, osl, rfl, lk, hcd, _, _⟩ := F.ex
  obtain ⟨c, ec⟩ := He.codeIn_ref hcd
  have e : cdv = .ref (He.codeOf K p) := by rw [He.codeOf_eq lk ec]; exact ec
  exact fn_of lk hcd S len fun A outer s H vs Q E hr h => hbody cdv A outer s H vs Q E e hr h
end
/-- the law itself: the table at T is empty yet -/
def spLawT (K : PySem.W.Frag) (T : Addr) : Sp := fun vs H Q _ => ∃ (a : Addr) (ns : List Int), vs = [.ref a] ∧ H T = some (.tbl #[]) ∧ SqL K H a (ns.map V.int) ∧ ns.length ≤ 1000 ∧ ∀ H', Q (.bl true) H'
theorem sql_del {K : PySem.W.Frag} {H : Hp} {a T : Addr} {xs : List V} (ht : H T = some (.tbl #[])) (h : SqL K H a xs) : SqL K (del H T) a xs := by
  have ne : ∀ o, H a = some o → o ≠ .tbl #[] → a ≠ T := fun o e n z => by rw [z, ht] at e; exact n (Option.some.inj e).symm
  rcases h with (h | ⟨o, h⟩) | h
  · exact .inl (.inl (by rw [del_ne (ne _ h (fun z => nomatch z))]; exact h))
  · exact .inl (.inr ⟨o, by rw [del_ne (ne _ h (fun z => nomatch z))]; exact h⟩)
  · exact .inr h
section
variable {K : PySem.W.Frag} {P : Program} {w : World} {mg : Str → Option Value} {base : Heap} {x qual : Str} {params : Arguments} {scope : Scope} {fd : FuncData} {k : Nat} {N : List Str} {n : Str}
theorem rel_scrW {bu : Nat} {q : Str} {H : Hp} {a T : Addr} {ns : List Int} (ht : H T = some (.tbl #[])) (h : SqL K H a (ns.map V.int)) : Rel K bu (L2.start (n :: N) [.ref a]) H (del H T) (del H T) (C.w ns T q :: startE N.length []) := by
  have ed : Ex (del H T) H := fun b o e => by
    by_cases z : b = T
    · rw [z, del_same] at e
      cases e
    · rw [del_ne z] at e
      exact e
  obtain ⟨_, _, fps, c, nd, hf⟩ := rel_start (K := K) (bu := bu) (G := del H T) (H := H) (R := del H T) (N := N) (vs := []) ed ed .nil
  have fl : fps.flatten = [] := by
    cases q : fps.flatten with
    | nil => rfl
    | cons b bs =>
      have hb : b ∈ fps.flatten := by rw [q]; exact List.mem_cons_self
      have z : ∀ (n : Nat) (σ : L2.St) (fps : List (List Addr)), Cells K bu (del H T) H σ (List.replicate n .no) fps → fps.flatten = [] := by
        intro n
        induction n with
        | zero => intro σ fps c; cases c; rfl
        | succ n ih =>
          intro σ fps c
          cases c with
          | cons h r =>
            have h' : _ = ([] : List Addr) := h
            rw [List.flatten_cons, h', ih _ _ r]
            rfl
      rw [z _ _ _ c] at hb
      cases hb
  have es : L2.start (n :: N) [V.ref a] = some (.ref a) :: L2.start N [] := by
    unfold L2.start
    show some (V.ref a) :: (List.map some [] ++ List.replicate (N.length + 1 - (0 + 1)) none) = _
    rw [Nat.add_sub_add_right]
    rfl
  rw [es]
  refine ⟨ed, ed, [T] :: fps, .cons (c := .w ns T q) (fp := [T]) ⟨a, #[], rfl, rfl, sql_del ht h, ⟨ht, trivial, fun pos cv z => ?_⟩⟩ c, by rw [List.flatten_cons, fl]; simp, fun b hb => ?_⟩
  · have z' : codeAmong pos [] = some cv := z
    simp [codeAmong] at z'
  · rw [List.flatten_cons, fl, List.append_nil] at hb
    rw [List.mem_singleton.mp hb]
    exact ⟨del_same, del_same⟩
theorem fn_lawT {i : Nat} {T : Addr} {p : Str × Option Str} {st1 : Stmt} {sts : List Stmt} (F : FunD K x qual params (st1 :: sts) scope [] [] (He.fAd K p) fd) (S : FnScope (n :: N) [n] scope)
    (hbody : ∀ (cdv : Value) (A : Around) (outer : List PySem.Env) (s : Shared) (H : Hp) (E : XK), cdv = .ref (He.codeOf K p) → Room k (A.deeper (envOfC qual scope s.heap.objs.size (He.fAd K p) cdv)) →
      ∃ t d, PS (cxOf L2.CX0 P w K mg base (n :: N) qual scope (He.fAd K p) cdv A outer s H E).nox st1 (tAsg (tCall (spB K) [] L2.E0 (tCons (tVar 0) tNil)) (gName i)) ∧ PSsD (cxOf L2.CX0 P w K mg base (n :: N) qual scope (He.fAd K p) cdv A outer s H E).nox K sts t d ∧ d.cost ≤ 2 ^ 46 ∧
        ∀ (ns : List Int) (a : Addr), ns.length ≤ 1000 → d { nx := fun _ => False, rt := fun x _ => x = .bool true } ((C.w ns T (lamQ (cxOf L2.CX0 P w K mg base (n :: N) qual scope (He.fAd K p) cdv A outer s H E)) :: startE N.length []).set i (.s a))) :
    FnOk P w K mg base L2.CX0 (k + 1) (He.fAd K p) fd [n] (spLawT K T) := by
  refine fund_okC F S (fun vs H Q E h => ?_) (fun cdv A outer s H vs Q E ec hr h => ?_)
  · obtain ⟨a, ns, rfl, _⟩ := h
    rfl
  · obtain ⟨a, ns, rfl, ht, hs, hl, fin⟩ := h
    obtain ⟨t, d, hp1, hps, hcost, hread⟩ := hbody cdv A outer s H E ec hr
    refine ⟨_, PSs.nox (pss_cons hp1 hps.ps), ?_⟩
    refine sims_begun (bu := 0 + d.cost) (by omega) { nx := fun E => d { nx := fun _ => False, rt := fun x _ => x = .bool true } E, rt := fun _ _ => False } _ _ H _ _ _ (rel_scrW ht hs) ⟨hl, fun a => hread ns a hl⟩ ⟨fun σ' H' G' E' l r hn => ?_, fun _ _ _ _ _ _ _ _ _ h => h.elim, fun _ _ _ _ _ _ h => h.elim, fun _ _ _ _ _ _ h => h.elim, fun _ _ _ _ _ _ _ _ _ _ h => h.elim⟩
    refine hps.sim 0 _ _ σ' H' G' _ E' r hn ⟨fun _ _ _ _ _ _ h => h.elim, fun v d' σ' H' G' E' l r hv' hn => ?_, fun _ _ _ _ _ _ h => h.elim, fun _ _ _ _ _ _ h => h.elim, fun _ _ _ _ _ _ _ _ _ _ h => h.elim⟩
    have hn' : d' = .bool true := hn
    subst hn'
    rw [hv'.bool_inv]
    exact fin H'
end
/-! ### the terms -/
/-- x = c(lambda: f(e, ..)) -/
theorem s_caught (i j : Nat) {X : Cx} {K : PySem.W.Frag} {cx xf a y : Str} {g c T R0 : Addr} {gd : FuncData} {pg : Arguments} {bg : List Stmt} {sg : Scope} {Ng : List Str} {params : Arguments} {scope : Scope} {e : Expr} {es : List Expr} {φ : PhX} {ok : Addr → Prop} {k m n : Nat} {ta : TA} {da : DN} {p lpos pos spos pos' pl cpos : Pos}
    (F : FunD X.K cx cx pg bg sg [] [] g gd) (hm : X.mg cx = some (.ref g)) (Sg : FnScope Ng [a] sg) (hG : ∀ cdv m, GivesS X Ng cx sg g cdv bg a (lamQ X) m (tCaught X.K R0)) (TB : TabB X.base X.mg c T) (hcode : X.env.code = .ref c) (hr : Room m X.A) (cf : FnX X.prog X.w X.K X.mg X.base k xf φ) (nd : X.N.Nodup)
    (hok : ∀ C, ok C → PySem.W.exmOne K (.ref C) (.ref R0) = some true)
    (ha : ∀ (A : Around) (outer : List PySem.Env) (s : Shared) (H : Hp) (E : XK) (f c' : Addr), Room k (A.deeper (lamEnv X scope s.heap.objs.size f c')) → PAD (lamCx X A outer s H E scope f c') K (e :: es) n ta da)
    (hk : k + 2 ≤ m := by decide) (hNg : Ng[0]? = some a := by rfl) (hva : Vis sg a := by first | exact Or.inl rfl | exact Or.inr (Or.inl rfl)) (hL : LamX.lamSB X.env.scope scope = true := by decide +kernel) (hdef : defaultsOf params X.env = ([], []) := by rfl)
    (hbind : ∀ (q : Str) (cl : List (Str × Addr)) (pm cv ctv : Value), bindArgs (PySem.W.kla_fn "<lambda>" q params (.Call (.Name xf pl) (e :: es) [] cpos) scope cl pm cv ctv) ⟨[], []⟩ = pure [] := by intros; rfl)
    (hg : Gl X cx := by rfl) (hgl : ∀ (A : Around) (outer : List PySem.Env) (s : Shared) (H : Hp) (E : XK) (f c' : Addr), Gl (lamCx X A outer s H E scope f c') xf := by intros; rfl)
    (he : ∀ (A : Around) (outer : List PySem.Env) (s : Shared) (H : Hp) (E : XK) (f c' : Addr), starEach (e :: es) (lamCx X A outer s H E scope f c').env = (false, eval e (lamCx X A outer s H E scope f c').env) :: starEach es (lamCx X A outer s H E scope f c').env := by intros; rfl)
    (hpl : ∀ (A : Around) (outer : List PySem.Env) (s : Shared) (H : Hp) (E : XK) (f c' : Addr), (backTo cpos (starEach es (lamCx X A outer s H E scope f c').env)).any (·.1) = false := by intros; rfl)
    (hdb : (cx == ("__debug__" : Str)) = false := by decide) (hdx : (xf == ("__debug__" : Str)) = false := by decide) (hd : (a == ("__debug__" : Str)) = false := by decide) (hcd : (a == ("__classdict__" : Str)) = false := by decide)
    (hb : Binds X.K gd [a] []) (hi : X.N[i]? = some y := by rfl) (hy : Loc X.env.scope y := by first | exact Or.inl rfl | exact Or.inr rfl) (hs : swapsWith (.Call (.Name cx p) [.Lambda params (.Call (.Name xf pl) (e :: es) [] cpos) scope lpos] [] pos) (some (.Name y pos')) spos.line X.env = pure false := by rfl)
    (hf : X.fn y = true ∨ X.env.scope.names.lookup y = some .local := by first | exact .inl rfl | exact .inr rfl) (hK : X.K = K := by rfl) :
    PSD X K (.Assign [.Name y pos'] (.Call (.Name cx p) [.Lambda params (.Call (.Name xf pl) (e :: es) [] cpos) scope lpos] [] pos) spos) (tAsg (tLamT T (lamQ X) (tCaught K R0) fun W => tCall (spX K φ) [] W ta) (gName i)) (dCaught i j T (lamQ X) ok (dXCall φ da)) := by
  subst hK
  obtain ⟨oc, od, dV, kV, doc, pm, an, cdv, ct, osl, rfl, lk, hcg, _, _⟩ := F.ex
  obtain ⟨fa, fd, ps, Fx, hmf, kp, bb⟩ := cf.ex
  have L := LamX.lamS_by hL
  have rk : Room k (X.A.deeper (lamEnv X scope X.s_0.heap.objs.size 0 0)) := ((hr.mono hk).deeper _).mono (Nat.le_succ k)
  refine ⟨ps_set nd hi hy (pe_lamT (qg := cx) hg hm F.kp lk hcg hb Sg hNg hva (hG cdv (k + 1)) TB hcode (hr.mono hk) L hdef hbind (fun A outer s H E f c' r => ?_) hdb hd hcd) hs hf, sims_caught hok (simx_call (ha X.A X.outer X.s_0 X.H_0 L2.E0 0 0 rk).sim)⟩
  exact pe_call Fx r (hgl A outer s H E f c') hmf kp bb .nil (passes_call (takes_of rfl rfl rfl rfl) fun _ _ _ _ z => z) (ha A outer s H E f c' r).pa hdx (he A outer s H E f c') (hpl A outer s H E f c')

/-- what the head says of a class of errors: R its base, st its __init__ -/
structure ErrH (K : PySem.W.Frag) (mg : Str → Option Value) (x q fld rn : Str) (st : Stmt) : Prop where
  ex : ∃ (D R fI : Addr) (fd : FuncData), (mg x = some (.ref D) ∧ mg rn = some (.ref R)) ∧ (ErrC K D ∧ PySem.W.findIn K (.ref D) fld = some none ∧ IniC K R) ∧ (PySem.W.findIn K (.ref D) "__init__" = some (some (.ref fI)) ∧ PySem.W.typeIn K (.ref fI) = some (.type "function") ∧ FunD K "__init__" q (defArgs st) (defBody st) (defScope st) [] [] fI fd) ∧
    (PySem.W.exmOne K (.ref D) (.ref R) = some true ∧ PySem.W.kitOne K (.ref D) (.ref D) = some true ∧ PySem.W.kitOne K (.type "NoneType") (.ref D) = some false)
def errHB (K : PySem.W.Frag) (x fld rn : Str) : Bool := (errB K (He.ga K x) && He.eqO (PySem.W.findIn K (.ref (He.ga K x)) fld) (some none)) && ((iniB K (He.ga K rn) && He.eqO (PySem.W.findIn K (.ref (He.ga K x)) "__init__") (some (some (.ref (He.ma K (He.ga K x) "__init__"))))) &&
  ((dq (PySem.W.typeIn K (.ref (He.ma K (He.ga K x) "__init__"))) (some (.type "function")) && dq (PySem.W.exmOne K (.ref (He.ga K x)) (.ref (He.ga K rn))) (some true)) && (dq (PySem.W.kitOne K (.ref (He.ga K x)) (.ref (He.ga K x))) (some true) && dq (PySem.W.kitOne K (.type "NoneType") (.ref (He.ga K x))) (some false))))
theorem errHB_ok {K : PySem.W.Frag} {mg : Str → Option Value} {x q fld rn : Str} {st : Stmt} {fd : FuncData} (h : errHB K x fld rn = true) (e1 : mg x = some (.ref (He.ga K x))) (e2 : mg rn = some (.ref (He.ga K rn))) (F : FunD K "__init__" q (defArgs st) (defBody st) (defScope st) [] [] (He.ma K (He.ga K x) "__init__") fd) : ErrH K mg x q fld rn st := by
  obtain ⟨h1, h⟩ := bb h
  obtain ⟨a1, a2⟩ := bb h1
  obtain ⟨h1, h⟩ := bb h
  obtain ⟨b1, b2⟩ := bb h1
  obtain ⟨h1, h⟩ := bb h
  obtain ⟨c1, c2⟩ := bb h1
  obtain ⟨d1, d2⟩ := bb h
  exact ⟨_, _, _, fd, ⟨e1, e2⟩, ⟨errB_ok a1, He.eqO_ok a2, iniB_ok b1⟩, ⟨He.eqO_ok b2, of_decide_eq_true c1, F⟩, of_decide_eq_true c2, of_decide_eq_true d1, of_decide_eq_true d2⟩
/-- a class by its name -/
def okA (mg : Str → Option Value) (x : Str) : Addr → Prop := fun C => mg x = some (.ref C)
def okI (mg : Str → Option Value) (x : Str) : Addr → Bool → Prop := fun C b => mg x = some (.ref C) ∧ b = true
section
variable {K : PySem.W.Frag} {mg : Str → Option Value} {x q fld rn : Str} {st : Stmt}
theorem ErrH.atI (h : ErrH K mg x q fld rn st) : ∃ T, mg x = some (.ref T) ∧ (∀ C b, okI mg x C b → ErrC K C ∧ PySem.W.kitOne K (.ref C) (.ref T) = some b) ∧ PySem.W.kitOne K (.type "NoneType") (.ref T) = some false := by
  obtain ⟨D, R, fI, fd, ⟨e1, e2⟩, ⟨e3, e4, e5⟩, _, e6, e7, e8⟩ := h.ex
  refine ⟨D, e1, fun C b ⟨z1, z2⟩ => ?_, e8⟩
  rw [e1] at z1
  cases z1
  subst z2
  exact ⟨e3, e7⟩
theorem ErrH.atA (h : ErrH K mg x q fld rn st) : ∀ C, okA mg x C → ErrC K C ∧ PySem.W.findIn K (.ref C) fld = some none := by
  obtain ⟨D, R, fI, fd, ⟨e1, e2⟩, ⟨e3, e4, e5⟩, _, e6, e7, e8⟩ := h.ex
  intro C z
  rw [show mg x = some (.ref C) from z] at e1
  cases e1
  exact ⟨e3, e4⟩
theorem ErrH.atX (h : ErrH K mg x q fld rn st) {R : Addr} (hR : mg rn = some (.ref R)) : ∀ C, okA mg x C → PySem.W.exmOne K (.ref C) (.ref R) = some true := by
  obtain ⟨D, R', fI, fd, ⟨e1, e2⟩, ⟨e3, e4, e5⟩, _, e6, e7, e8⟩ := h.ex
  intro C z
  rw [show mg x = some (.ref C) from z] at e1
  cases e1
  rw [hR] at e2
  cases e2
  exact e6
end
end DL

namespace B12
open PySem PySem.Spec PyProof.Rows L2 DL
def topOf (i : Nat) : Stmt := (PySem.Challenge.pw_barhouse_k12_whole_phases_block_by_block).main.body.getD i (.Pass ⟨0, 0, 0, 0⟩)
abbrev s_is_integer : Stmt := topOf 7
abbrev s_is_within : Stmt := topOf 13
abbrev s_is_turning : Stmt := topOf 14
abbrev s_need_turnings : Stmt := topOf 15
abbrev s_shared : Stmt := topOf 16
abbrev s_least_common : Stmt := topOf 17
abbrev s_bond_of : Stmt := topOf 18
abbrev s_need_bond : Stmt := topOf 19
abbrev s_rests_of : Stmt := topOf 20
abbrev s_by_class : Stmt := topOf 21
abbrev s_parted : Stmt := topOf 22
abbrev s_counts : Stmt := topOf 23
abbrev s_need_two : Stmt := topOf 26
abbrev s_meetings_of : Stmt := topOf 27
abbrev s_meetings : Stmt := topOf 28
abbrev s_phases : Stmt := topOf 29
abbrev s_law_begun : Stmt := topOf 31
abbrev s_law_mixed : Stmt := topOf 32
abbrev s_law_draw : Stmt := topOf 33
abbrev s_law_pick : Stmt := topOf 34
abbrev s_law_shuffled : Stmt := topOf 35
abbrev s_law_is : Stmt := topOf 36
abbrev s_law_caught : Stmt := topOf 37
abbrev s_law_common : Stmt := topOf 38
abbrev s_law_some_ring : Stmt := topOf 39
abbrev s_law_agreed : Stmt := topOf 40
abbrev s_law : Stmt := topOf 41
abbrev s_BadTurning_init : Stmt := inClass (topOf 5) 0
structure Hd (K : PySem.W.Frag) (mg : Str → Option Value) : Prop where
  b_ValueError : mg "ValueError" = none
  b_abs : mg "abs" = none
  b_all : mg "all" = none
  b_bool : mg "bool" = none
  b_dict : mg "dict" = none
  b_enumerate : mg "enumerate" = none
  b_int : mg "int" = none
  b_isinstance : mg "isinstance" = none
  b_len : mg "len" = none
  b_list : mg "list" = none
  b_min : mg "min" = none
  b_range : mg "range" = none
  b_sorted : mg "sorted" = none
  b_str : mg "str" = none
  b_sum : mg "sum" = none
  b_tuple : mg "tuple" = none
  b_zip : mg "zip" = none
  g_MOST_LENGTH : ∃ t, mg "MOST_LENGTH" = some (.int 240 t)
  g_MOST_START : ∃ t, mg "MOST_START" = some (.int 1000000000 t)
  g_MOST_TURNINGS : ∃ t, mg "MOST_TURNINGS" = some (.int 6 t)
  g_MOST_BOND : ∃ t, mg "MOST_BOND" = some (.int 50000 t)
  g_MOST_ROUNDS : ∃ t, mg "MOST_ROUNDS" = some (.int 1000 t)
  r_base : ∃ R, mg "RhythmError" = some (.ref R)
  x_BadTurning : ErrH K mg "BadTurning" "BadTurning.__init__" "index" "RhythmError" s_BadTurning_init
  f_is_integer : ∃ f fd, FunD K "is_integer" "is_integer" (defArgs s_is_integer) (defBody s_is_integer) (defScope s_is_integer) [] [] f fd ∧ mg "is_integer" = some (.ref f)
  f_is_within : ∃ f fd, FunD K "is_within" "is_within" (defArgs s_is_within) (defBody s_is_within) (defScope s_is_within) [] [] f fd ∧ mg "is_within" = some (.ref f)
  f_is_turning : ∃ f fd, FunD K "is_turning" "is_turning" (defArgs s_is_turning) (defBody s_is_turning) (defScope s_is_turning) [] [] f fd ∧ mg "is_turning" = some (.ref f)
  f_need_turnings : ∃ f fd, FunD K "need_turnings" "need_turnings" (defArgs s_need_turnings) (defBody s_need_turnings) (defScope s_need_turnings) [] [] f fd ∧ mg "need_turnings" = some (.ref f)
  f_shared : ∃ f fd, FunD K "shared" "shared" (defArgs s_shared) (defBody s_shared) (defScope s_shared) [] [] f fd ∧ mg "shared" = some (.ref f)
  f_least_common : ∃ f fd, FunD K "least_common" "least_common" (defArgs s_least_common) (defBody s_least_common) (defScope s_least_common) [] [] f fd ∧ mg "least_common" = some (.ref f)
  f_bond_of : ∃ f fd, FunD K "bond_of" "bond_of" (defArgs s_bond_of) (defBody s_bond_of) (defScope s_bond_of) [] [] f fd ∧ mg "bond_of" = some (.ref f)
  f_need_bond : ∃ f fd, FunD K "need_bond" "need_bond" (defArgs s_need_bond) (defBody s_need_bond) (defScope s_need_bond) [] [] f fd ∧ mg "need_bond" = some (.ref f)
  f_rests_of : ∃ f fd, FunD K "rests_of" "rests_of" (defArgs s_rests_of) (defBody s_rests_of) (defScope s_rests_of) [] [] f fd ∧ mg "rests_of" = some (.ref f)
  f_by_class : ∃ f fd, FunD K "by_class" "by_class" (defArgs s_by_class) (defBody s_by_class) (defScope s_by_class) [] [] f fd ∧ mg "by_class" = some (.ref f)
  f_parted : ∃ f fd, FunD K "parted" "parted" (defArgs s_parted) (defBody s_parted) (defScope s_parted) [] [] f fd ∧ mg "parted" = some (.ref f)
  f_counts : ∃ f fd, FunD K "counts" "counts" (defArgs s_counts) (defBody s_counts) (defScope s_counts) [] [] f fd ∧ mg "counts" = some (.ref f)
  f_need_two : ∃ f fd, FunD K "need_two" "need_two" (defArgs s_need_two) (defBody s_need_two) (defScope s_need_two) [] [] f fd ∧ mg "need_two" = some (.ref f)
  f_meetings_of : ∃ f fd, FunD K "meetings_of" "meetings_of" (defArgs s_meetings_of) (defBody s_meetings_of) (defScope s_meetings_of) [] [] f fd ∧ mg "meetings_of" = some (.ref f)
  f_meetings : ∃ f fd, FunD K "meetings" "meetings" (defArgs s_meetings) (defBody s_meetings) (defScope s_meetings) [] [] f fd ∧ mg "meetings" = some (.ref f)
  f_phases : ∃ f fd, FunD K "phases" "phases" (defArgs s_phases) (defBody s_phases) (defScope s_phases) [] [] f fd ∧ mg "phases" = some (.ref f)
  f_law_begun : ∃ f fd, FunD K "_law_begun" "_law_begun" (defArgs s_law_begun) (defBody s_law_begun) (defScope s_law_begun) [] [] f fd ∧ mg "_law_begun" = some (.ref f)
  f_law_mixed : ∃ f fd, FunD K "_law_mixed" "_law_mixed" (defArgs s_law_mixed) (defBody s_law_mixed) (defScope s_law_mixed) [] [] f fd ∧ mg "_law_mixed" = some (.ref f)
  f_law_draw : ∃ f fd, FunD K "_law_draw" "_law_draw" (defArgs s_law_draw) (defBody s_law_draw) (defScope s_law_draw) [] [] f fd ∧ mg "_law_draw" = some (.ref f)
  f_law_pick : ∃ f fd, FunD K "_law_pick" "_law_pick" (defArgs s_law_pick) (defBody s_law_pick) (defScope s_law_pick) [] [] f fd ∧ mg "_law_pick" = some (.ref f)
  f_law_shuffled : ∃ f fd, FunD K "_law_shuffled" "_law_shuffled" (defArgs s_law_shuffled) (defBody s_law_shuffled) (defScope s_law_shuffled) [] [] f fd ∧ mg "_law_shuffled" = some (.ref f)
  f_law_is : ∃ f fd, FunD K "_law_is" "_law_is" (defArgs s_law_is) (defBody s_law_is) (defScope s_law_is) [] [] f fd ∧ mg "_law_is" = some (.ref f)
  f_law_caught : ∃ f fd, FunD K "_law_caught" "_law_caught" (defArgs s_law_caught) (defBody s_law_caught) (defScope s_law_caught) [] [] f fd ∧ mg "_law_caught" = some (.ref f)
  f_law_common : ∃ f fd, FunD K "_law_common" "_law_common" (defArgs s_law_common) (defBody s_law_common) (defScope s_law_common) [] [] f fd ∧ mg "_law_common" = some (.ref f)
  f_law_some_ring : ∃ f fd, FunD K "_law_some_ring" "_law_some_ring" (defArgs s_law_some_ring) (defBody s_law_some_ring) (defScope s_law_some_ring) [] [] f fd ∧ mg "_law_some_ring" = some (.ref f)
  f_law_agreed : ∃ f fd, FunD K "_law_agreed" "_law_agreed" (defArgs s_law_agreed) (defBody s_law_agreed) (defScope s_law_agreed) [] [] f fd ∧ mg "_law_agreed" = some (.ref f)
  f_law : ∃ f fd, FunD K "law" "law" (defArgs s_law) (defBody s_law) (defScope s_law) [] [] f fd ∧ mg "law" = some (.ref f)
/-! numbers -/
def phi_is_integer : Ph := fun ds P => ∃ i : Int, ds = [.int i] ∧ P (.bool true)
theorem len_is_integer : ∀ ds Q, phi_is_integer ds Q → ds.length = 1 := by rintro ds Q ⟨i, rfl, _⟩; rfl
/-! is_integer(value): value=0 -/
abbrev N_is_integer : List Str := ["value"]
def d_is_integer : DS := (dRet (dAndV (dIsi "int" (dVar 0)) (dNotV (dIsi "bool" (dVar 0)))))
theorem rd_is_integer : ∀ ds Q, phi_is_integer ds Q → d_is_integer { nx := fun _ => Q .none, rt := fun x _ => Q x } (startE N_is_integer.length ds) := by
  rintro ds Q ⟨i, rfl, h⟩
  show d_is_integer _ [C.d (.int i)]
  simp (config := { maxSteps := 4000000 }) only [d_is_integer, dRaise1, dXCall, dXApp, dCaught, dIsE, dXat, dNonE, dRev, dParV, dCallV, dStInt, dStTurn, dStNext, dMixed, dWhileS, dForS, dLcS, dStCells, dStPut, dAppPop, dBegun, dSeq, dCut, dNext, dFrzS, dSet, dSetN, dPar, dParN, dParM, dParNN, dDrop, dRet, dRetN, dIfS, dNever, dBreak, dCont, dAug, dApp, dPutL, dAugL, dIxO, dCBO, dOpO, dOpO2, dTupO, dWhile, dgName, dgNil, dgCons, dgTup, dAsg, dSeqI, dScrI, dRng1, dRng2, dRngN, dZip, dEnum, dFor, dLc, dLc2, dYes, dFrz, dVar, dC, dOp, dOpN, dUn, dChain, dNil, dCons, dTup, dCB, dCBN, dCall, dB, dAnd, dOr, dNot, dAndV, dOrV, dNotV, dIf, dNone, dSome, dSl, dIsi, dIsi2, dListR1, dListR2, dLenScr, dCallS, fLt, fLe, fGt, fGe, fSub, fFdiv, fMod, fPow, fIMul, fInt, fInt0, fCmp, fEq, fAdd, fMul, fRepN, fCatN, fNeg, fIs, fIn, flatD, fIx, fSl, fLen, fAbs, fIntOf, fTwo, fTupOf, fListOf, fIpAdd, DL.seen, ty_int_non, ty_int_bool, ty_int_int, ty_int_str, ty_int_list, ty_int_tuple, ty_bool_non, ty_bool_bool, ty_bool_int, ty_bool_str, ty_bool_list, ty_bool_tuple, ty_str_non, ty_str_bool, ty_str_int, ty_str_str, ty_str_list, ty_str_tuple, ty_list_non, ty_list_bool, ty_list_int, ty_list_str, ty_list_list, ty_list_tuple, ty_tuple_non, ty_tuple_bool, ty_tuple_int, ty_tuple_str, ty_tuple_list, ty_tuple_tuple, ty_dict_non, ty_dict_bool, ty_dict_int, ty_dict_str, ty_dict_list, ty_dict_tuple, Bool.not_false, Bool.not_true, List.getElem?_cons_zero, List.getElem?_cons_succ, List.set_cons_zero, List.set_cons_succ, br_t, br_f, wipeE, ↓reduceIte]
  exact h
abbrev sc_is_integer : Scope := defScope s_is_integer
theorem scp_is_integer : FnScope N_is_integer ["value"] sc_is_integer := ⟨rfl, rfl, rfl, by decide +kernel, rfl, by decide +kernel, by decide +kernel⟩
theorem ok_is_integer {P : Program} {w : World} {K : PySem.W.Frag} {mg : Str → Option Value} {base : Heap} (h : Hd K mg) : Fn P w K mg base 1 "is_integer" (spD K phi_is_integer) := by
  obtain ⟨f, fd, F, hm⟩ := h.f_is_integer
  have sc := scp_is_integer
  exact Fn.mk' (fn_pure F scp_is_integer len_is_integer fun cdv A outer s H E hr => ⟨_, d_is_integer, (q_one (s_ret (pd_and (pd_isi (by rfl) h.b_isinstance (by rfl) h.b_int boot_int (by decide) (pd_v 0)) (pd_1 (pd_not (pd_isi (by rfl) h.b_isinstance (by rfl) h.b_bool boot_bool (by decide) (pd_v 0))))))), rd_is_integer⟩) hm F.kp (F.bindsN fun _ _ _ _ _ _ us hl => match us, hl with | [_], _ => rfl)
def phi_is_within : Ph := fun ds P => ∃ i lo hi : Int, ds = [.int i, .int lo, .int hi] ∧ P (.bool (decide (lo ≤ i ∧ i ≤ hi)))
theorem len_is_within : ∀ ds Q, phi_is_within ds Q → ds.length = 3 := by rintro ds Q ⟨i, lo, hi, rfl, _⟩; rfl
/-! is_within(value, low, high): value=0 low=1 high=2 -/
abbrev N_is_within : List Str := ["value", "low", "high"]
def d_is_within : DS := (dRet (dAndV (dCall phi_is_integer (dCons (dVar 0) dNil)) (dChain fLe fLe (dVar 1) (dVar 0) (dVar 2))))
theorem rd_is_within : ∀ ds Q, phi_is_within ds Q → d_is_within { nx := fun _ => Q .none, rt := fun x _ => Q x } (startE N_is_within.length ds) := by
  rintro ds Q ⟨i, lo, hi, rfl, h⟩
  show d_is_within _ [C.d (.int i), C.d (.int lo), C.d (.int hi)]
  simp (config := { maxSteps := 4000000 }) only [d_is_within, dRaise1, dXCall, dXApp, dCaught, dIsE, dXat, dNonE, dRev, dParV, dCallV, dStInt, dStTurn, dStNext, dMixed, dWhileS, dForS, dLcS, dStCells, dStPut, dAppPop, dBegun, dSeq, dCut, dNext, dFrzS, dSet, dSetN, dPar, dParN, dParM, dParNN, dDrop, dRet, dRetN, dIfS, dNever, dBreak, dCont, dAug, dApp, dPutL, dAugL, dIxO, dCBO, dOpO, dOpO2, dTupO, dWhile, dgName, dgNil, dgCons, dgTup, dAsg, dSeqI, dScrI, dRng1, dRng2, dRngN, dZip, dEnum, dFor, dLc, dLc2, dYes, dFrz, dVar, dC, dOp, dOpN, dUn, dChain, dNil, dCons, dTup, dCB, dCBN, dCall, dB, dAnd, dOr, dNot, dAndV, dOrV, dNotV, dIf, dNone, dSome, dSl, dIsi, dIsi2, dListR1, dListR2, dLenScr, dCallS, fLt, fLe, fGt, fGe, fSub, fFdiv, fMod, fPow, fIMul, fInt, fInt0, fCmp, fEq, fAdd, fMul, fRepN, fCatN, fNeg, fIs, fIn, flatD, fIx, fSl, fLen, fAbs, fIntOf, fTwo, fTupOf, fListOf, fIpAdd, DL.seen, ty_int_non, ty_int_bool, ty_int_int, ty_int_str, ty_int_list, ty_int_tuple, ty_bool_non, ty_bool_bool, ty_bool_int, ty_bool_str, ty_bool_list, ty_bool_tuple, ty_str_non, ty_str_bool, ty_str_int, ty_str_str, ty_str_list, ty_str_tuple, ty_list_non, ty_list_bool, ty_list_int, ty_list_str, ty_list_list, ty_list_tuple, ty_tuple_non, ty_tuple_bool, ty_tuple_int, ty_tuple_str, ty_tuple_list, ty_tuple_tuple, ty_dict_non, ty_dict_bool, ty_dict_int, ty_dict_str, ty_dict_list, ty_dict_tuple, Bool.not_false, Bool.not_true, List.getElem?_cons_zero, List.getElem?_cons_succ, List.set_cons_zero, List.set_cons_succ, br_t, br_f, wipeE, ↓reduceIte]
  refine ⟨i, rfl, ?_⟩
  simp (config := { maxSteps := 4000000 }) only [d_is_within, dRaise1, dXCall, dXApp, dCaught, dIsE, dXat, dNonE, dRev, dParV, dCallV, dStInt, dStTurn, dStNext, dMixed, dWhileS, dForS, dLcS, dStCells, dStPut, dAppPop, dBegun, dSeq, dCut, dNext, dFrzS, dSet, dSetN, dPar, dParN, dParM, dParNN, dDrop, dRet, dRetN, dIfS, dNever, dBreak, dCont, dAug, dApp, dPutL, dAugL, dIxO, dCBO, dOpO, dOpO2, dTupO, dWhile, dgName, dgNil, dgCons, dgTup, dAsg, dSeqI, dScrI, dRng1, dRng2, dRngN, dZip, dEnum, dFor, dLc, dLc2, dYes, dFrz, dVar, dC, dOp, dOpN, dUn, dChain, dNil, dCons, dTup, dCB, dCBN, dCall, dB, dAnd, dOr, dNot, dAndV, dOrV, dNotV, dIf, dNone, dSome, dSl, dIsi, dIsi2, dListR1, dListR2, dLenScr, dCallS, fLt, fLe, fGt, fGe, fSub, fFdiv, fMod, fPow, fIMul, fInt, fInt0, fCmp, fEq, fAdd, fMul, fRepN, fCatN, fNeg, fIs, fIn, flatD, fIx, fSl, fLen, fAbs, fIntOf, fTwo, fTupOf, fListOf, fIpAdd, DL.seen, ty_int_non, ty_int_bool, ty_int_int, ty_int_str, ty_int_list, ty_int_tuple, ty_bool_non, ty_bool_bool, ty_bool_int, ty_bool_str, ty_bool_list, ty_bool_tuple, ty_str_non, ty_str_bool, ty_str_int, ty_str_str, ty_str_list, ty_str_tuple, ty_list_non, ty_list_bool, ty_list_int, ty_list_str, ty_list_list, ty_list_tuple, ty_tuple_non, ty_tuple_bool, ty_tuple_int, ty_tuple_str, ty_tuple_list, ty_tuple_tuple, ty_dict_non, ty_dict_bool, ty_dict_int, ty_dict_str, ty_dict_list, ty_dict_tuple, Bool.not_false, Bool.not_true, List.getElem?_cons_zero, List.getElem?_cons_succ, List.set_cons_zero, List.set_cons_succ, br_t, br_f, wipeE, ↓reduceIte]
  refine ⟨fun e => ?_, fun e => ?_⟩
  · have e' : decide (i ≤ hi) = decide (lo ≤ i ∧ i ≤ hi) := by simp at e; simp [e]
    rw [e']
    exact h
  · have e' : decide (lo ≤ i ∧ i ≤ hi) = false := by simp at e; simp; omega
    rw [← e']
    exact h
abbrev sc_is_within : Scope := defScope s_is_within
theorem scp_is_within : FnScope N_is_within ["value", "low", "high"] sc_is_within := ⟨rfl, rfl, rfl, by decide +kernel, rfl, by decide +kernel, by decide +kernel⟩
theorem ok_is_within {P : Program} {w : World} {K : PySem.W.Frag} {mg : Str → Option Value} {base : Heap} (h : Hd K mg) (c_is_integer : Fn P w K mg base 1 "is_integer" (spD K phi_is_integer)) : Fn P w K mg base 2 "is_within" (spD K phi_is_within) := by
  obtain ⟨f, fd, F, hm⟩ := h.f_is_within
  have sc := scp_is_within
  exact Fn.mk' (fn_pure F scp_is_within len_is_within fun cdv A outer s H E hr => ⟨_, d_is_within, (q_one (s_ret (pd_and (pd_call c_is_integer hr (pa_c (pd_v 0) pa_n)) (pd_1 (pd_chain c_le c_le (pd_v 1) (pd_v 0) (pd_v 2)))))), rd_is_within⟩) hm F.kp (F.bindsN fun _ _ _ _ _ _ us hl => match us, hl with | [_, _, _], _ => rfl)
def phi_shared : Ph := fun ds P => ∃ a b : Int, ds = [.int a, .int b] ∧ 0 ≤ a ∧ 0 ≤ b ∧ P (.int (Int.gcd a b))
theorem len_shared : ∀ ds Q, phi_shared ds Q → ds.length = 2 := by rintro ds Q ⟨a, b, rfl, _⟩; rfl
/-! shared(one, other): one=0 other=1 -/
abbrev N_shared : List Str := ["one", "other"]
def d_shared : DS := (dSeq (dWhile (dB (dOp (fEq true) (dVar 1) (dC (.int 0))))
  (dPar 0 1 (dVar 1) (dOp fMod (dVar 0) (dVar 1))))
  (dRet (dVar 0)))
theorem rd_shared : ∀ ds Q, phi_shared ds Q → d_shared { nx := fun _ => Q .none, rt := fun x _ => Q x } (startE N_shared.length ds) := by
  rintro ds Q ⟨a, b, rfl, ha, hb, h⟩
  show d_shared _ [C.d (.int a), C.d (.int b)]
  simp (config := { maxSteps := 4000000 }) only [d_shared, dRaise1, dXCall, dXApp, dCaught, dIsE, dXat, dNonE, dRev, dParV, dCallV, dStInt, dStTurn, dStNext, dMixed, dWhileS, dForS, dLcS, dStCells, dStPut, dAppPop, dBegun, dSeq, dCut, dNext, dFrzS, dSet, dSetN, dPar, dParN, dParM, dParNN, dDrop, dRet, dRetN, dIfS, dNever, dBreak, dCont, dAug, dApp, dPutL, dAugL, dIxO, dCBO, dOpO, dOpO2, dTupO, dWhile, dgName, dgNil, dgCons, dgTup, dAsg, dSeqI, dScrI, dRng1, dRng2, dRngN, dZip, dEnum, dFor, dLc, dLc2, dYes, dFrz, dVar, dC, dOp, dOpN, dUn, dChain, dNil, dCons, dTup, dCB, dCBN, dCall, dB, dAnd, dOr, dNot, dAndV, dOrV, dNotV, dIf, dNone, dSome, dSl, dIsi, dIsi2, dListR1, dListR2, dLenScr, dCallS, fLt, fLe, fGt, fGe, fSub, fFdiv, fMod, fPow, fIMul, fInt, fInt0, fCmp, fEq, fAdd, fMul, fRepN, fCatN, fNeg, fIs, fIn, flatD, fIx, fSl, fLen, fAbs, fIntOf, fTwo, fTupOf, fListOf, fIpAdd, DL.seen, ty_int_non, ty_int_bool, ty_int_int, ty_int_str, ty_int_list, ty_int_tuple, ty_bool_non, ty_bool_bool, ty_bool_int, ty_bool_str, ty_bool_list, ty_bool_tuple, ty_str_non, ty_str_bool, ty_str_int, ty_str_str, ty_str_list, ty_str_tuple, ty_list_non, ty_list_bool, ty_list_int, ty_list_str, ty_list_list, ty_list_tuple, ty_tuple_non, ty_tuple_bool, ty_tuple_int, ty_tuple_str, ty_tuple_list, ty_tuple_tuple, ty_dict_non, ty_dict_bool, ty_dict_int, ty_dict_str, ty_dict_list, ty_dict_tuple, Bool.not_false, Bool.not_true, List.getElem?_cons_zero, List.getElem?_cons_succ, List.set_cons_zero, List.set_cons_succ, br_t, br_f, wipeE, ↓reduceIte]
  refine ⟨fun m E => ∃ x y : Int, 0 ≤ x ∧ 0 ≤ y ∧ m = y.toNat ∧ Int.gcd x y = Int.gcd a b ∧ E = [C.d (.int x), C.d (.int y)], ⟨_, a, b, ha, hb, rfl, rfl, rfl⟩, ?_⟩
  rintro m E ⟨x, y, hx, hy, rfl, hg, rfl⟩
  simp (config := { maxSteps := 4000000 }) only [dRaise1, dXCall, dXApp, dCaught, dIsE, dXat, dNonE, dRev, dParV, dCallV, dStInt, dStTurn, dStNext, dMixed, dWhileS, dForS, dLcS, dStCells, dStPut, dAppPop, dBegun, dSeq, dCut, dNext, dFrzS, dSet, dSetN, dPar, dParN, dParM, dParNN, dDrop, dRet, dRetN, dIfS, dNever, dBreak, dCont, dAug, dApp, dPutL, dAugL, dIxO, dCBO, dOpO, dOpO2, dTupO, dWhile, dgName, dgNil, dgCons, dgTup, dAsg, dSeqI, dScrI, dRng1, dRng2, dRngN, dZip, dEnum, dFor, dLc, dLc2, dYes, dFrz, dVar, dC, dOp, dOpN, dUn, dChain, dNil, dCons, dTup, dCB, dCBN, dCall, dB, dAnd, dOr, dNot, dAndV, dOrV, dNotV, dIf, dNone, dSome, dSl, dIsi, dIsi2, dListR1, dListR2, dLenScr, dCallS, fLt, fLe, fGt, fGe, fSub, fFdiv, fMod, fPow, fIMul, fInt, fInt0, fCmp, fEq, fAdd, fMul, fRepN, fCatN, fNeg, fIs, fIn, flatD, fIx, fSl, fLen, fAbs, fIntOf, fTwo, fTupOf, fListOf, fIpAdd, DL.seen, ty_int_non, ty_int_bool, ty_int_int, ty_int_str, ty_int_list, ty_int_tuple, ty_bool_non, ty_bool_bool, ty_bool_int, ty_bool_str, ty_bool_list, ty_bool_tuple, ty_str_non, ty_str_bool, ty_str_int, ty_str_str, ty_str_list, ty_str_tuple, ty_list_non, ty_list_bool, ty_list_int, ty_list_str, ty_list_list, ty_list_tuple, ty_tuple_non, ty_tuple_bool, ty_tuple_int, ty_tuple_str, ty_tuple_list, ty_tuple_tuple, ty_dict_non, ty_dict_bool, ty_dict_int, ty_dict_str, ty_dict_list, ty_dict_tuple, Bool.not_false, Bool.not_true, List.getElem?_cons_zero, List.getElem?_cons_succ, List.set_cons_zero, List.set_cons_succ, br_t, br_f, wipeE, ↓reduceIte]
  refine ⟨fun e => ?_, fun e => ?_⟩
  · have y0 : y ≠ 0 := by simpa using e
    have hm := Int.emod_nonneg x y0
    have hl := Int.emod_lt_of_pos x (show 0 < y by omega)
    refine ⟨by omega, (x % y).toNat, by omega, y, x % y, hy, hm, rfl, ?_, rfl⟩
    exact sub_gcd hg
  · have y0 : y = 0 := by simpa using e
    subst y0
    have e2 : (x : Int) = Int.gcd a b := by rw [← hg, Int.gcd_zero]; omega
    rw [e2]
    exact h
abbrev sc_shared : Scope := defScope s_shared
theorem scp_shared : FnScope N_shared ["one", "other"] sc_shared := ⟨rfl, rfl, rfl, by decide +kernel, rfl, by decide +kernel, by decide +kernel⟩
theorem ok_shared {P : Program} {w : World} {K : PySem.W.Frag} {mg : Str → Option Value} {base : Heap} (h : Hd K mg) : Fn P w K mg base 1 "shared" (spD K phi_shared) := by
  obtain ⟨f, fd, F, hm⟩ := h.f_shared
  have sc := scp_shared
  exact Fn.mk' (fn_pure F scp_shared len_shared fun cdv A outer s H E hr => ⟨_, d_shared, (q_cons (s_while (pt_cmp (c_ne hr) (pd_v 1) pd_i)
  (q_one (s_par 0 1 sc.nd (pd_v 1) (pd_mod (pd_v 0) (pd_v 1)))))
  (q_one (s_ret (pd_v 0)))), rd_shared⟩) hm F.kp (F.bindsN fun _ _ _ _ _ _ us hl => match us, hl with | [_, _], _ => rfl)

/-! turnings -/
abbrev tT (n : Int) (os : List Int) (st : Int) : PyData := .tuple [.int n, .tuple (iL os), .int st]
structure OkT (n : Int) (os : List Int) (st : Int) : Prop where
  n1 : 1 ≤ n
  n2 : n ≤ 240
  s1 : 0 ≤ st
  s2 : st ≤ 1000000000
  ne : os ≠ []
  len : os.length ≤ 1000
  lo : ∀ o ∈ os, 0 ≤ o ∧ o ≤ n - 1
  inc : os.Pairwise (· < ·)
def phi_is_turning : Ph := fun ds P => ∃ n os st, ds = [tT n os st] ∧ OkT n os st ∧ P (.bool true)
theorem len_is_turning : ∀ ds Q, phi_is_turning ds Q → ds.length = 1 := by rintro ds Q ⟨n, os, st, rfl, _⟩; rfl
/-! is_turning(thing): thing=0 length=1 onsets=2 start=3 one=4 other=5 onset=6 -/
abbrev N_is_turning : List Str := ["thing", "length", "onsets", "start", "one", "other", "onset"]
def d_is_turning : DS := (dSeq (dIfS (dOr (dNot (dB (dIsi "tuple" (dVar 0)))) (dOr (dB (dOp (fEq true) (dCB fLen (dCons (dVar 0) dNil)) (dC (.int 3)))) (dNot (dB (dCall phi_is_within (dCons (dOp fIx (dVar 0) (dC (.int 0))) (dCons (dC (.int 1)) (dCons (dC (.int 240)) dNil))))))))
  (dRet (dC (.bool false)))
  dNext)
  (dSeq (dAsg (dVar 0) (dgTup 3 (dgCons (dgName 1) (dgCons (dgName 2) (dgCons (dgName 3) dgNil)))))
  (dSeq (dIfS (dOr (dNot (dB (dCall phi_is_within (dCons (dVar 3) (dCons (dC (.int 0)) (dCons (dC (.int 1000000000)) dNil)))))) (dOr (dNot (dB (dIsi "tuple" (dVar 2)))) (dB (dOp (fEq false) (dCB fLen (dCons (dVar 2) dNil)) (dC (.int 0))))))
  (dRet (dC (.bool false)))
  dNext)
  (dSeq (dIfS (dNot (dB (dCB (fAll fun bs => bs.all id) (dCons (dFrz (dLc (dSeqI (dVar 2)) (dgName 6) dYes (dCall phi_is_within (dCons (dVar 6) (dCons (dC (.int 0)) (dCons (dOp fSub (dVar 1) (dC (.int 1))) dNil)))) [6])) dNil))))
  (dRet (dC (.bool false)))
  dNext)
  (dRet (dCB (fAll fun bs => bs.all id) (dCons (dFrz (dLc (dZip (dCons (dVar 2) (dCons (dSl fSl (dVar 2) (dSome (dC (.int 1))) dNone) dNil))) (dgTup 2 (dgCons (dgName 4) (dgCons (dgName 5) dgNil))) dYes (dOp fLt (dVar 4) (dVar 5)) [4, 5])) dNil)))))))
theorem inc_next {os : List Int} (h : os.Pairwise (· < ·)) {i : Nat} {a b : Int} (ha : os[i]? = some a) (hb : (os.drop 1)[i]? = some b) : a < b := by
  rw [List.getElem?_drop] at hb
  obtain ⟨h1, rfl⟩ := List.getElem?_eq_some_iff.mp ha
  obtain ⟨h2, rfl⟩ := List.getElem?_eq_some_iff.mp hb
  exact List.pairwise_iff_getElem.mp h i (1 + i) h1 h2 (by omega)
theorem rd_is_turning : ∀ ds Q, phi_is_turning ds Q → d_is_turning { nx := fun _ => Q .none, rt := fun x _ => Q x } (startE N_is_turning.length ds) := by
  rintro ds Q ⟨n, os, st, rfl, ok, h⟩
  show d_is_turning _ [C.d (tT n os st), .no, .no, .no, .no, .no, .no]
  simp (config := { maxSteps := 4000000 }) only [d_is_turning, dRaise1, dXCall, dXApp, dCaught, dIsE, dXat, dNonE, dRev, dParV, dCallV, dStInt, dStTurn, dStNext, dMixed, dWhileS, dForS, dLcS, dStCells, dStPut, dAppPop, dBegun, dSeq, dCut, dNext, dFrzS, dSet, dSetN, dPar, dParN, dParM, dParNN, dDrop, dRet, dRetN, dIfS, dNever, dBreak, dCont, dAug, dApp, dPutL, dAugL, dIxO, dCBO, dOpO, dOpO2, dTupO, dWhile, dgName, dgNil, dgCons, dgTup, dAsg, dSeqI, dScrI, dRng1, dRng2, dRngN, dZip, dEnum, dFor, dLc, dLc2, dYes, dFrz, dVar, dC, dOp, dOpN, dUn, dChain, dNil, dCons, dTup, dCB, dCBN, dCall, dB, dAnd, dOr, dNot, dAndV, dOrV, dNotV, dIf, dNone, dSome, dSl, dIsi, dIsi2, dListR1, dListR2, dLenScr, dCallS, fLt, fLe, fGt, fGe, fSub, fFdiv, fMod, fPow, fIMul, fInt, fInt0, fCmp, fEq, fAdd, fMul, fRepN, fCatN, fNeg, fIs, fIn, flatD, fIx, fSl, fLen, fAbs, fIntOf, fTwo, fTupOf, fListOf, fIpAdd, DL.seen, ty_int_non, ty_int_bool, ty_int_int, ty_int_str, ty_int_list, ty_int_tuple, ty_bool_non, ty_bool_bool, ty_bool_int, ty_bool_str, ty_bool_list, ty_bool_tuple, ty_str_non, ty_str_bool, ty_str_int, ty_str_str, ty_str_list, ty_str_tuple, ty_list_non, ty_list_bool, ty_list_int, ty_list_str, ty_list_list, ty_list_tuple, ty_tuple_non, ty_tuple_bool, ty_tuple_int, ty_tuple_str, ty_tuple_list, ty_tuple_tuple, ty_dict_non, ty_dict_bool, ty_dict_int, ty_dict_str, ty_dict_list, ty_dict_tuple, Bool.not_false, Bool.not_true, List.getElem?_cons_zero, List.getElem?_cons_succ, List.set_cons_zero, List.set_cons_succ, br_t, br_f, wipeE, ↓reduceIte]
  have e3 : (!decide (([PyData.int n, .tuple (iL os), .int st].length : Int) = 3)) = false := rfl
  rw [e3]
  simp (config := { maxSteps := 4000000 }) only [dRaise1, dXCall, dXApp, dCaught, dIsE, dXat, dNonE, dRev, dParV, dCallV, dStInt, dStTurn, dStNext, dMixed, dWhileS, dForS, dLcS, dStCells, dStPut, dAppPop, dBegun, dSeq, dCut, dNext, dFrzS, dSet, dSetN, dPar, dParN, dParM, dParNN, dDrop, dRet, dRetN, dIfS, dNever, dBreak, dCont, dAug, dApp, dPutL, dAugL, dIxO, dCBO, dOpO, dOpO2, dTupO, dWhile, dgName, dgNil, dgCons, dgTup, dAsg, dSeqI, dScrI, dRng1, dRng2, dRngN, dZip, dEnum, dFor, dLc, dLc2, dYes, dFrz, dVar, dC, dOp, dOpN, dUn, dChain, dNil, dCons, dTup, dCB, dCBN, dCall, dB, dAnd, dOr, dNot, dAndV, dOrV, dNotV, dIf, dNone, dSome, dSl, dIsi, dIsi2, dListR1, dListR2, dLenScr, dCallS, fLt, fLe, fGt, fGe, fSub, fFdiv, fMod, fPow, fIMul, fInt, fInt0, fCmp, fEq, fAdd, fMul, fRepN, fCatN, fNeg, fIs, fIn, flatD, fIx, fSl, fLen, fAbs, fIntOf, fTwo, fTupOf, fListOf, fIpAdd, DL.seen, ty_int_non, ty_int_bool, ty_int_int, ty_int_str, ty_int_list, ty_int_tuple, ty_bool_non, ty_bool_bool, ty_bool_int, ty_bool_str, ty_bool_list, ty_bool_tuple, ty_str_non, ty_str_bool, ty_str_int, ty_str_str, ty_str_list, ty_str_tuple, ty_list_non, ty_list_bool, ty_list_int, ty_list_str, ty_list_list, ty_list_tuple, ty_tuple_non, ty_tuple_bool, ty_tuple_int, ty_tuple_str, ty_tuple_list, ty_tuple_tuple, ty_dict_non, ty_dict_bool, ty_dict_int, ty_dict_str, ty_dict_list, ty_dict_tuple, Bool.not_false, Bool.not_true, List.getElem?_cons_zero, List.getElem?_cons_succ, List.set_cons_zero, List.set_cons_succ, br_t, br_f, wipeE, ↓reduceIte]
  refine ⟨_, atI0, _, _, _, rfl, ?_⟩
  have e1 : decide ((1 : Int) ≤ n ∧ n ≤ 240) = true := decide_eq_true ⟨ok.n1, ok.n2⟩
  rw [e1]
  simp (config := { maxSteps := 4000000 }) only [dRaise1, dXCall, dXApp, dCaught, dIsE, dXat, dNonE, dRev, dParV, dCallV, dStInt, dStTurn, dStNext, dMixed, dWhileS, dForS, dLcS, dStCells, dStPut, dAppPop, dBegun, dSeq, dCut, dNext, dFrzS, dSet, dSetN, dPar, dParN, dParM, dParNN, dDrop, dRet, dRetN, dIfS, dNever, dBreak, dCont, dAug, dApp, dPutL, dAugL, dIxO, dCBO, dOpO, dOpO2, dTupO, dWhile, dgName, dgNil, dgCons, dgTup, dAsg, dSeqI, dScrI, dRng1, dRng2, dRngN, dZip, dEnum, dFor, dLc, dLc2, dYes, dFrz, dVar, dC, dOp, dOpN, dUn, dChain, dNil, dCons, dTup, dCB, dCBN, dCall, dB, dAnd, dOr, dNot, dAndV, dOrV, dNotV, dIf, dNone, dSome, dSl, dIsi, dIsi2, dListR1, dListR2, dLenScr, dCallS, fLt, fLe, fGt, fGe, fSub, fFdiv, fMod, fPow, fIMul, fInt, fInt0, fCmp, fEq, fAdd, fMul, fRepN, fCatN, fNeg, fIs, fIn, flatD, fIx, fSl, fLen, fAbs, fIntOf, fTwo, fTupOf, fListOf, fIpAdd, DL.seen, ty_int_non, ty_int_bool, ty_int_int, ty_int_str, ty_int_list, ty_int_tuple, ty_bool_non, ty_bool_bool, ty_bool_int, ty_bool_str, ty_bool_list, ty_bool_tuple, ty_str_non, ty_str_bool, ty_str_int, ty_str_str, ty_str_list, ty_str_tuple, ty_list_non, ty_list_bool, ty_list_int, ty_list_str, ty_list_list, ty_list_tuple, ty_tuple_non, ty_tuple_bool, ty_tuple_int, ty_tuple_str, ty_tuple_list, ty_tuple_tuple, ty_dict_non, ty_dict_bool, ty_dict_int, ty_dict_str, ty_dict_list, ty_dict_tuple, Bool.not_false, Bool.not_true, List.getElem?_cons_zero, List.getElem?_cons_succ, List.set_cons_zero, List.set_cons_succ, br_t, br_f, wipeE, ↓reduceIte]
  refine ⟨rfl, ?_⟩
  refine ⟨_, _, _, rfl, ?_⟩
  have e2 : decide ((0 : Int) ≤ st ∧ st ≤ 1000000000) = true := decide_eq_true ⟨ok.s1, ok.s2⟩
  rw [e2]
  have e4 : decide (((iL os).length : Int) = 0) = false := by
    refine decide_eq_false fun z => ok.ne ?_
    rw [iL_len] at z
    exact List.eq_nil_of_length_eq_zero (by omega)
  simp (config := { maxSteps := 4000000 }) only [Bool.false_eq_true, e4, dRaise1, dXCall, dXApp, dCaught, dIsE, dXat, dNonE, dRev, dParV, dCallV, dStInt, dStTurn, dStNext, dMixed, dWhileS, dForS, dLcS, dStCells, dStPut, dAppPop, dBegun, dSeq, dCut, dNext, dFrzS, dSet, dSetN, dPar, dParN, dParM, dParNN, dDrop, dRet, dRetN, dIfS, dNever, dBreak, dCont, dAug, dApp, dPutL, dAugL, dIxO, dCBO, dOpO, dOpO2, dTupO, dWhile, dgName, dgNil, dgCons, dgTup, dAsg, dSeqI, dScrI, dRng1, dRng2, dRngN, dZip, dEnum, dFor, dLc, dLc2, dYes, dFrz, dVar, dC, dOp, dOpN, dUn, dChain, dNil, dCons, dTup, dCB, dCBN, dCall, dB, dAnd, dOr, dNot, dAndV, dOrV, dNotV, dIf, dNone, dSome, dSl, dIsi, dIsi2, dListR1, dListR2, dLenScr, dCallS, fLt, fLe, fGt, fGe, fSub, fFdiv, fMod, fPow, fIMul, fInt, fInt0, fCmp, fEq, fAdd, fMul, fRepN, fCatN, fNeg, fIs, fIn, flatD, fIx, fSl, fLen, fAbs, fIntOf, fTwo, fTupOf, fListOf, fIpAdd, DL.seen, ty_int_non, ty_int_bool, ty_int_int, ty_int_str, ty_int_list, ty_int_tuple, ty_bool_non, ty_bool_bool, ty_bool_int, ty_bool_str, ty_bool_list, ty_bool_tuple, ty_str_non, ty_str_bool, ty_str_int, ty_str_str, ty_str_list, ty_str_tuple, ty_list_non, ty_list_bool, ty_list_int, ty_list_str, ty_list_list, ty_list_tuple, ty_tuple_non, ty_tuple_bool, ty_tuple_int, ty_tuple_str, ty_tuple_list, ty_tuple_tuple, ty_dict_non, ty_dict_bool, ty_dict_int, ty_dict_str, ty_dict_list, ty_dict_tuple, Bool.not_false, Bool.not_true, List.getElem?_cons_zero, List.getElem?_cons_succ, List.set_cons_zero, List.set_cons_succ, br_t, br_f, wipeE, ↓reduceIte]
  refine ⟨rfl, fun i acc => acc = ((List.replicate (iL os).length true).map PyData.bool).take i, take_nil0, by rw [iL_len]; exact line_big ok.len, fun i x acc hx hw => ?_, fun acc hw => ⟨List.replicate (iL os).length true, ?_, ?_⟩⟩
  · obtain ⟨o, ho, rfl⟩ := iL_at hx
    refine ⟨_, _, _, rfl, ?_⟩
    rw [decide_eq_true (ok.lo o (List.mem_of_getElem? ho)), hw]
    exact take_push (bools_at hx rfl)
  · rw [hw, take_all (by simp)]
  · simp (config := { maxSteps := 4000000 }) only [all_rep, dRaise1, dXCall, dXApp, dCaught, dIsE, dXat, dNonE, dRev, dParV, dCallV, dStInt, dStTurn, dStNext, dMixed, dWhileS, dForS, dLcS, dStCells, dStPut, dAppPop, dBegun, dSeq, dCut, dNext, dFrzS, dSet, dSetN, dPar, dParN, dParM, dParNN, dDrop, dRet, dRetN, dIfS, dNever, dBreak, dCont, dAug, dApp, dPutL, dAugL, dIxO, dCBO, dOpO, dOpO2, dTupO, dWhile, dgName, dgNil, dgCons, dgTup, dAsg, dSeqI, dScrI, dRng1, dRng2, dRngN, dZip, dEnum, dFor, dLc, dLc2, dYes, dFrz, dVar, dC, dOp, dOpN, dUn, dChain, dNil, dCons, dTup, dCB, dCBN, dCall, dB, dAnd, dOr, dNot, dAndV, dOrV, dNotV, dIf, dNone, dSome, dSl, dIsi, dIsi2, dListR1, dListR2, dLenScr, dCallS, fLt, fLe, fGt, fGe, fSub, fFdiv, fMod, fPow, fIMul, fInt, fInt0, fCmp, fEq, fAdd, fMul, fRepN, fCatN, fNeg, fIs, fIn, flatD, fIx, fSl, fLen, fAbs, fIntOf, fTwo, fTupOf, fListOf, fIpAdd, DL.seen, ty_int_non, ty_int_bool, ty_int_int, ty_int_str, ty_int_list, ty_int_tuple, ty_bool_non, ty_bool_bool, ty_bool_int, ty_bool_str, ty_bool_list, ty_bool_tuple, ty_str_non, ty_str_bool, ty_str_int, ty_str_str, ty_str_list, ty_str_tuple, ty_list_non, ty_list_bool, ty_list_int, ty_list_str, ty_list_list, ty_list_tuple, ty_tuple_non, ty_tuple_bool, ty_tuple_int, ty_tuple_str, ty_tuple_list, ty_tuple_tuple, ty_dict_non, ty_dict_bool, ty_dict_int, ty_dict_str, ty_dict_list, ty_dict_tuple, Bool.not_false, Bool.not_true, List.getElem?_cons_zero, List.getElem?_cons_succ, List.set_cons_zero, List.set_cons_succ, br_t, br_f, wipeE, ↓reduceIte]
    have ez : cutD (iL os) (some 1) none = iL (os.drop 1) := by rw [show (some (1 : Int)) = some ((1 : Nat) : Int) from rfl, cutD_from, iL, iL, List.map_drop]
    rw [ez]
    refine ⟨rfl, fun i acc => acc = ((List.replicate (zipD (iL os) (iL (os.drop 1))).length true).map PyData.bool).take i, take_nil0, ?_, fun i x acc hx hw => ?_, fun acc hw => ⟨List.replicate (zipD (iL os) (iL (os.drop 1))).length true, ?_, ?_⟩⟩
    · rw [zipD_len, iL_len]; exact Nat.lt_of_le_of_lt (Nat.min_le_left ..) (line_big ok.len)
    · obtain ⟨a, b, h1, h2, rfl⟩ := zipD_at hx
      obtain ⟨a, h3, rfl⟩ := iL_at h1
      obtain ⟨b, h4, rfl⟩ := iL_at h2
      refine ⟨rfl, ?_⟩
      simp (config := { maxSteps := 4000000 }) only [dRaise1, dXCall, dXApp, dCaught, dIsE, dXat, dNonE, dRev, dParV, dCallV, dStInt, dStTurn, dStNext, dMixed, dWhileS, dForS, dLcS, dStCells, dStPut, dAppPop, dBegun, dSeq, dCut, dNext, dFrzS, dSet, dSetN, dPar, dParN, dParM, dParNN, dDrop, dRet, dRetN, dIfS, dNever, dBreak, dCont, dAug, dApp, dPutL, dAugL, dIxO, dCBO, dOpO, dOpO2, dTupO, dWhile, dgName, dgNil, dgCons, dgTup, dAsg, dSeqI, dScrI, dRng1, dRng2, dRngN, dZip, dEnum, dFor, dLc, dLc2, dYes, dFrz, dVar, dC, dOp, dOpN, dUn, dChain, dNil, dCons, dTup, dCB, dCBN, dCall, dB, dAnd, dOr, dNot, dAndV, dOrV, dNotV, dIf, dNone, dSome, dSl, dIsi, dIsi2, dListR1, dListR2, dLenScr, dCallS, fLt, fLe, fGt, fGe, fSub, fFdiv, fMod, fPow, fIMul, fInt, fInt0, fCmp, fEq, fAdd, fMul, fRepN, fCatN, fNeg, fIs, fIn, flatD, fIx, fSl, fLen, fAbs, fIntOf, fTwo, fTupOf, fListOf, fIpAdd, DL.seen, ty_int_non, ty_int_bool, ty_int_int, ty_int_str, ty_int_list, ty_int_tuple, ty_bool_non, ty_bool_bool, ty_bool_int, ty_bool_str, ty_bool_list, ty_bool_tuple, ty_str_non, ty_str_bool, ty_str_int, ty_str_str, ty_str_list, ty_str_tuple, ty_list_non, ty_list_bool, ty_list_int, ty_list_str, ty_list_list, ty_list_tuple, ty_tuple_non, ty_tuple_bool, ty_tuple_int, ty_tuple_str, ty_tuple_list, ty_tuple_tuple, ty_dict_non, ty_dict_bool, ty_dict_int, ty_dict_str, ty_dict_list, ty_dict_tuple, Bool.not_false, Bool.not_true, List.getElem?_cons_zero, List.getElem?_cons_succ, List.set_cons_zero, List.set_cons_succ, br_t, br_f, wipeE, ↓reduceIte]
      rw [decide_eq_true (inc_next ok.inc h3 h4), hw]
      exact take_push (bools_at hx rfl)
    · rw [hw, take_all (by simp)]
    · simp (config := { maxSteps := 4000000 }) only [all_rep, dRaise1, dXCall, dXApp, dCaught, dIsE, dXat, dNonE, dRev, dParV, dCallV, dStInt, dStTurn, dStNext, dMixed, dWhileS, dForS, dLcS, dStCells, dStPut, dAppPop, dBegun, dSeq, dCut, dNext, dFrzS, dSet, dSetN, dPar, dParN, dParM, dParNN, dDrop, dRet, dRetN, dIfS, dNever, dBreak, dCont, dAug, dApp, dPutL, dAugL, dIxO, dCBO, dOpO, dOpO2, dTupO, dWhile, dgName, dgNil, dgCons, dgTup, dAsg, dSeqI, dScrI, dRng1, dRng2, dRngN, dZip, dEnum, dFor, dLc, dLc2, dYes, dFrz, dVar, dC, dOp, dOpN, dUn, dChain, dNil, dCons, dTup, dCB, dCBN, dCall, dB, dAnd, dOr, dNot, dAndV, dOrV, dNotV, dIf, dNone, dSome, dSl, dIsi, dIsi2, dListR1, dListR2, dLenScr, dCallS, fLt, fLe, fGt, fGe, fSub, fFdiv, fMod, fPow, fIMul, fInt, fInt0, fCmp, fEq, fAdd, fMul, fRepN, fCatN, fNeg, fIs, fIn, flatD, fIx, fSl, fLen, fAbs, fIntOf, fTwo, fTupOf, fListOf, fIpAdd, DL.seen, ty_int_non, ty_int_bool, ty_int_int, ty_int_str, ty_int_list, ty_int_tuple, ty_bool_non, ty_bool_bool, ty_bool_int, ty_bool_str, ty_bool_list, ty_bool_tuple, ty_str_non, ty_str_bool, ty_str_int, ty_str_str, ty_str_list, ty_str_tuple, ty_list_non, ty_list_bool, ty_list_int, ty_list_str, ty_list_list, ty_list_tuple, ty_tuple_non, ty_tuple_bool, ty_tuple_int, ty_tuple_str, ty_tuple_list, ty_tuple_tuple, ty_dict_non, ty_dict_bool, ty_dict_int, ty_dict_str, ty_dict_list, ty_dict_tuple, Bool.not_false, Bool.not_true, List.getElem?_cons_zero, List.getElem?_cons_succ, List.set_cons_zero, List.set_cons_succ, br_t, br_f, wipeE, ↓reduceIte]
      exact h
abbrev sc_is_turning : Scope := defScope s_is_turning
theorem scp_is_turning : FnScope N_is_turning ["thing"] sc_is_turning := ⟨rfl, rfl, rfl, by decide +kernel, rfl, by decide +kernel, by decide +kernel⟩
theorem ok_is_turning {P : Program} {w : World} {K : PySem.W.Frag} {mg : Str → Option Value} {base : Heap} (h : Hd K mg) (c_is_within : Fn P w K mg base 2 "is_within" (spD K phi_is_within)) : Fn P w K mg base 3 "is_turning" (spD K phi_is_turning) := by
  obtain ⟨f, fd, F, hm⟩ := h.f_is_turning
  have sc := scp_is_turning
  exact Fn.mk' (fn_pure F scp_is_turning len_is_turning fun cdv A outer s H E hr => ⟨_, d_is_turning, (q_cons (s_if (pt_w (pw_o (pt_n (pt_e (pd_isi (by rfl) h.b_isinstance (by rfl) h.b_tuple boot_tuple (by decide) (pd_v 0)))) (pw_o (pt_cmp (c_ne hr) (pd_B cs_len call_len h.b_len PySem.boot_len (pa_c (pd_v 0) pa_n)) pd_i) (pw_o1 (pt_n (pt_e (pd_call c_is_within hr (pa_c (pd_ix (pd_v 0) pd_i) (pa_c pd_i (pa_c (pd_g h.g_MOST_LENGTH) pa_n))))))))))
  (q_one (s_ret pd_b))
  q_nil)
  (q_cons (s_asg (pd_v 0) (g_tup 3 (gs_cons (g_name 1 sc.nd) (gs_cons (g_name 2 sc.nd) (gs_cons (g_name 3 sc.nd) gs_nil)))))
  (q_cons (s_if (pt_w (pw_o (pt_n (pt_e (pd_call c_is_within hr (pa_c (pd_v 3) (pa_c pd_i (pa_c (pd_g h.g_MOST_START) pa_n)))))) (pw_o (pt_n (pt_e (pd_isi (by rfl) h.b_isinstance (by rfl) h.b_tuple boot_tuple (by decide) (pd_v 2)))) (pw_o1 (pt_cmp (c_eq hr) (pd_B cs_len call_len h.b_len PySem.boot_len (pa_c (pd_v 2) pa_n)) pd_i)))))
  (q_one (s_ret pd_b))
  q_nil)
  (q_cons (s_if (pt_n (pt_e (pd_B cs_all (cr_all rfl) h.b_all boot_all (pa_c (pd_f (n_of (l_lc [("onset", 6)] sc.nd (i_seq (pd_v 2)) (blkOk_by (own := [("onset", 6)]) (N := N_is_turning) (sc := sc_is_turning) (by decide +kernel)) (fun _ _ _ _ _ => (g_name 6 sc.nd)) (fun _ _ _ _ _ => t_yes) (fun _ _ _ _ _ => (pd_call c_is_within hr (pa_c (pd_v 6) (pa_c pd_i (pa_c (pd_sub (pd_v 1) pd_i) pa_n)))))))) pa_n))))
  (q_one (s_ret pd_b))
  q_nil)
  (q_one (s_ret (pd_B cs_all (cr_all rfl) h.b_all boot_all (pa_c (pd_f (n_of (l_lc [("one", 4), ("other", 5)] sc.nd (i_zip h.b_zip (pa_c (pd_v 2) (pa_c (pd_sl (pd_v 2) (po_s pd_i) po_n) pa_n))) (blkOk_by (own := [("one", 4), ("other", 5)]) (N := N_is_turning) (sc := sc_is_turning) (by decide +kernel)) (fun _ _ _ _ _ => (g_tup 2 (gs_cons (g_name 4 sc.nd) (gs_cons (g_name 5 sc.nd) gs_nil)))) (fun _ _ _ _ _ => t_yes) (fun _ _ _ _ _ => (pd_cmp c_lt (pd_v 4) (pd_v 5)))))) pa_n)))))))), rd_is_turning⟩) hm F.kp (F.bindsN fun _ _ _ _ _ _ us hl => match us, hl with | [_], _ => rfl)

def phi_need_two : Ph := fun ds P => ∃ n os st m us sv, ds = [tT n os st, tT m us sv] ∧ OkT n os st ∧ OkT m us sv ∧ P .none
theorem len_need_two : ∀ ds Q, phi_need_two ds Q → ds.length = 2 := by rintro ds Q ⟨n, os, st, m, us, sv, rfl, _⟩; rfl
/-! need_two(one, other): one=0 other=1 -/
abbrev N_need_two : List Str := ["one", "other"]
def d_need_two : DS := (dSeq (dIfS (dNot (dB (dCall phi_is_turning (dCons (dVar 0) dNil))))
  dNever
  dNext)
  (dIfS (dNot (dB (dCall phi_is_turning (dCons (dVar 1) dNil))))
  dNever
  dNext))
theorem rd_need_two : ∀ ds Q, phi_need_two ds Q → d_need_two { nx := fun _ => Q .none, rt := fun x _ => Q x } (startE N_need_two.length ds) := by
  rintro ds Q ⟨n, os, st, m, us, sv, rfl, ok, ok2, h⟩
  show d_need_two _ [C.d (tT n os st), C.d (tT m us sv)]
  simp (config := { maxSteps := 4000000 }) only [d_need_two, dRaise1, dXCall, dXApp, dCaught, dIsE, dXat, dNonE, dRev, dParV, dCallV, dStInt, dStTurn, dStNext, dMixed, dWhileS, dForS, dLcS, dStCells, dStPut, dAppPop, dBegun, dSeq, dCut, dNext, dFrzS, dSet, dSetN, dPar, dParN, dParM, dParNN, dDrop, dRet, dRetN, dIfS, dNever, dBreak, dCont, dAug, dApp, dPutL, dAugL, dIxO, dCBO, dOpO, dOpO2, dTupO, dWhile, dgName, dgNil, dgCons, dgTup, dAsg, dSeqI, dScrI, dRng1, dRng2, dRngN, dZip, dEnum, dFor, dLc, dLc2, dYes, dFrz, dVar, dC, dOp, dOpN, dUn, dChain, dNil, dCons, dTup, dCB, dCBN, dCall, dB, dAnd, dOr, dNot, dAndV, dOrV, dNotV, dIf, dNone, dSome, dSl, dIsi, dIsi2, dListR1, dListR2, dLenScr, dCallS, fLt, fLe, fGt, fGe, fSub, fFdiv, fMod, fPow, fIMul, fInt, fInt0, fCmp, fEq, fAdd, fMul, fRepN, fCatN, fNeg, fIs, fIn, flatD, fIx, fSl, fLen, fAbs, fIntOf, fTwo, fTupOf, fListOf, fIpAdd, DL.seen, ty_int_non, ty_int_bool, ty_int_int, ty_int_str, ty_int_list, ty_int_tuple, ty_bool_non, ty_bool_bool, ty_bool_int, ty_bool_str, ty_bool_list, ty_bool_tuple, ty_str_non, ty_str_bool, ty_str_int, ty_str_str, ty_str_list, ty_str_tuple, ty_list_non, ty_list_bool, ty_list_int, ty_list_str, ty_list_list, ty_list_tuple, ty_tuple_non, ty_tuple_bool, ty_tuple_int, ty_tuple_str, ty_tuple_list, ty_tuple_tuple, ty_dict_non, ty_dict_bool, ty_dict_int, ty_dict_str, ty_dict_list, ty_dict_tuple, Bool.not_false, Bool.not_true, List.getElem?_cons_zero, List.getElem?_cons_succ, List.set_cons_zero, List.set_cons_succ, br_t, br_f, wipeE, ↓reduceIte]
  refine ⟨_, _, _, rfl, ok, ?_⟩
  simp (config := { maxSteps := 4000000 }) only [dRaise1, dXCall, dXApp, dCaught, dIsE, dXat, dNonE, dRev, dParV, dCallV, dStInt, dStTurn, dStNext, dMixed, dWhileS, dForS, dLcS, dStCells, dStPut, dAppPop, dBegun, dSeq, dCut, dNext, dFrzS, dSet, dSetN, dPar, dParN, dParM, dParNN, dDrop, dRet, dRetN, dIfS, dNever, dBreak, dCont, dAug, dApp, dPutL, dAugL, dIxO, dCBO, dOpO, dOpO2, dTupO, dWhile, dgName, dgNil, dgCons, dgTup, dAsg, dSeqI, dScrI, dRng1, dRng2, dRngN, dZip, dEnum, dFor, dLc, dLc2, dYes, dFrz, dVar, dC, dOp, dOpN, dUn, dChain, dNil, dCons, dTup, dCB, dCBN, dCall, dB, dAnd, dOr, dNot, dAndV, dOrV, dNotV, dIf, dNone, dSome, dSl, dIsi, dIsi2, dListR1, dListR2, dLenScr, dCallS, fLt, fLe, fGt, fGe, fSub, fFdiv, fMod, fPow, fIMul, fInt, fInt0, fCmp, fEq, fAdd, fMul, fRepN, fCatN, fNeg, fIs, fIn, flatD, fIx, fSl, fLen, fAbs, fIntOf, fTwo, fTupOf, fListOf, fIpAdd, DL.seen, ty_int_non, ty_int_bool, ty_int_int, ty_int_str, ty_int_list, ty_int_tuple, ty_bool_non, ty_bool_bool, ty_bool_int, ty_bool_str, ty_bool_list, ty_bool_tuple, ty_str_non, ty_str_bool, ty_str_int, ty_str_str, ty_str_list, ty_str_tuple, ty_list_non, ty_list_bool, ty_list_int, ty_list_str, ty_list_list, ty_list_tuple, ty_tuple_non, ty_tuple_bool, ty_tuple_int, ty_tuple_str, ty_tuple_list, ty_tuple_tuple, ty_dict_non, ty_dict_bool, ty_dict_int, ty_dict_str, ty_dict_list, ty_dict_tuple, Bool.not_false, Bool.not_true, List.getElem?_cons_zero, List.getElem?_cons_succ, List.set_cons_zero, List.set_cons_succ, br_t, br_f, wipeE, ↓reduceIte]
  refine ⟨_, _, _, rfl, ok2, ?_⟩
  simp (config := { maxSteps := 4000000 }) only [dRaise1, dXCall, dXApp, dCaught, dIsE, dXat, dNonE, dRev, dParV, dCallV, dStInt, dStTurn, dStNext, dMixed, dWhileS, dForS, dLcS, dStCells, dStPut, dAppPop, dBegun, dSeq, dCut, dNext, dFrzS, dSet, dSetN, dPar, dParN, dParM, dParNN, dDrop, dRet, dRetN, dIfS, dNever, dBreak, dCont, dAug, dApp, dPutL, dAugL, dIxO, dCBO, dOpO, dOpO2, dTupO, dWhile, dgName, dgNil, dgCons, dgTup, dAsg, dSeqI, dScrI, dRng1, dRng2, dRngN, dZip, dEnum, dFor, dLc, dLc2, dYes, dFrz, dVar, dC, dOp, dOpN, dUn, dChain, dNil, dCons, dTup, dCB, dCBN, dCall, dB, dAnd, dOr, dNot, dAndV, dOrV, dNotV, dIf, dNone, dSome, dSl, dIsi, dIsi2, dListR1, dListR2, dLenScr, dCallS, fLt, fLe, fGt, fGe, fSub, fFdiv, fMod, fPow, fIMul, fInt, fInt0, fCmp, fEq, fAdd, fMul, fRepN, fCatN, fNeg, fIs, fIn, flatD, fIx, fSl, fLen, fAbs, fIntOf, fTwo, fTupOf, fListOf, fIpAdd, DL.seen, ty_int_non, ty_int_bool, ty_int_int, ty_int_str, ty_int_list, ty_int_tuple, ty_bool_non, ty_bool_bool, ty_bool_int, ty_bool_str, ty_bool_list, ty_bool_tuple, ty_str_non, ty_str_bool, ty_str_int, ty_str_str, ty_str_list, ty_str_tuple, ty_list_non, ty_list_bool, ty_list_int, ty_list_str, ty_list_list, ty_list_tuple, ty_tuple_non, ty_tuple_bool, ty_tuple_int, ty_tuple_str, ty_tuple_list, ty_tuple_tuple, ty_dict_non, ty_dict_bool, ty_dict_int, ty_dict_str, ty_dict_list, ty_dict_tuple, Bool.not_false, Bool.not_true, List.getElem?_cons_zero, List.getElem?_cons_succ, List.set_cons_zero, List.set_cons_succ, br_t, br_f, wipeE, ↓reduceIte]
  exact h
abbrev sc_need_two : Scope := defScope s_need_two
theorem scp_need_two : FnScope N_need_two ["one", "other"] sc_need_two := ⟨rfl, rfl, rfl, by decide +kernel, rfl, by decide +kernel, by decide +kernel⟩
theorem ok_need_two {P : Program} {w : World} {K : PySem.W.Frag} {mg : Str → Option Value} {base : Heap} (h : Hd K mg) (c_is_turning : Fn P w K mg base 3 "is_turning" (spD K phi_is_turning)) : Fn P w K mg base 4 "need_two" (spD K phi_need_two) := by
  obtain ⟨f, fd, F, hm⟩ := h.f_need_two
  have sc := scp_need_two
  exact Fn.mk' (fn_pure F scp_need_two len_need_two fun cdv A outer s H E hr => ⟨_, d_need_two, (q_cons (s_if (pt_n (pt_e (pd_call c_is_turning hr (pa_c (pd_v 0) pa_n))))
  (q_one s_never)
  q_nil)
  (q_one (s_if (pt_n (pt_e (pd_call c_is_turning hr (pa_c (pd_v 1) pa_n))))
  (q_one s_never)
  q_nil))), rd_need_two⟩) hm F.kp (F.bindsN fun _ _ _ _ _ _ us hl => match us, hl with | [_, _], _ => rfl)
/-! rests, meetings -/
def basR (n : Int) (os : List Int) (st : Int) : List Int := os.map fun o => (st + o) % n
def phi_rests_of : Ph := fun ds P => ∃ n os st, ds = [tT n os st] ∧ OkT n os st ∧ ∀ rs : List Int, rs.Perm (basR n os st) → P (.list (iL rs))
theorem len_rests_of : ∀ ds Q, phi_rests_of ds Q → ds.length = 1 := by rintro ds Q ⟨n, os, st, rfl, _⟩; rfl
/-! rests_of(turning): turning=0 length=1 onsets=2 start=3 onset=4 -/
abbrev N_rests_of : List Str := ["turning", "length", "onsets", "start", "onset"]
def d_rests_of : DS := (dSeq (dAsg (dVar 0) (dgTup 3 (dgCons (dgName 1) (dgCons (dgName 2) (dgCons (dgName 3) dgNil)))))
  (dRet (dFrz (dCBN fSort (dCons (dFrz (dLc (dSeqI (dVar 2)) (dgName 4) dYes (dOp fMod (dOp fAdd (dVar 3) (dVar 4)) (dVar 1)) [4])) dNil)))))
theorem rd_rests_of : ∀ ds Q, phi_rests_of ds Q → d_rests_of { nx := fun _ => Q .none, rt := fun x _ => Q x } (startE N_rests_of.length ds) := by
  rintro ds Q ⟨n, os, st, rfl, ok, h⟩
  show d_rests_of _ [C.d (tT n os st), .no, .no, .no, .no]
  simp (config := { maxSteps := 4000000 }) only [d_rests_of, dRaise1, dXCall, dXApp, dCaught, dIsE, dXat, dNonE, dRev, dParV, dCallV, dStInt, dStTurn, dStNext, dMixed, dWhileS, dForS, dLcS, dStCells, dStPut, dAppPop, dBegun, dSeq, dCut, dNext, dFrzS, dSet, dSetN, dPar, dParN, dParM, dParNN, dDrop, dRet, dRetN, dIfS, dNever, dBreak, dCont, dAug, dApp, dPutL, dAugL, dIxO, dCBO, dOpO, dOpO2, dTupO, dWhile, dgName, dgNil, dgCons, dgTup, dAsg, dSeqI, dScrI, dRng1, dRng2, dRngN, dZip, dEnum, dFor, dLc, dLc2, dYes, dFrz, dVar, dC, dOp, dOpN, dUn, dChain, dNil, dCons, dTup, dCB, dCBN, dCall, dB, dAnd, dOr, dNot, dAndV, dOrV, dNotV, dIf, dNone, dSome, dSl, dIsi, dIsi2, dListR1, dListR2, dLenScr, dCallS, fLt, fLe, fGt, fGe, fSub, fFdiv, fMod, fPow, fIMul, fInt, fInt0, fCmp, fEq, fAdd, fMul, fRepN, fCatN, fNeg, fIs, fIn, flatD, fIx, fSl, fLen, fAbs, fIntOf, fTwo, fTupOf, fListOf, fIpAdd, DL.seen, ty_int_non, ty_int_bool, ty_int_int, ty_int_str, ty_int_list, ty_int_tuple, ty_bool_non, ty_bool_bool, ty_bool_int, ty_bool_str, ty_bool_list, ty_bool_tuple, ty_str_non, ty_str_bool, ty_str_int, ty_str_str, ty_str_list, ty_str_tuple, ty_list_non, ty_list_bool, ty_list_int, ty_list_str, ty_list_list, ty_list_tuple, ty_tuple_non, ty_tuple_bool, ty_tuple_int, ty_tuple_str, ty_tuple_list, ty_tuple_tuple, ty_dict_non, ty_dict_bool, ty_dict_int, ty_dict_str, ty_dict_list, ty_dict_tuple, Bool.not_false, Bool.not_true, List.getElem?_cons_zero, List.getElem?_cons_succ, List.set_cons_zero, List.set_cons_succ, br_t, br_f, wipeE, ↓reduceIte]
  refine ⟨rfl, rfl, fun i acc => acc = (iL (basR n os st)).take i, take_nil0, by rw [iL_len]; exact line_big ok.len, fun i x acc hx hw => ?_, fun acc hw => ⟨basR n os st, ?_, fun ns h1 h2 => h ns h1⟩⟩
  · obtain ⟨o, ho, rfl⟩ := iL_at hx
    simp (config := { maxSteps := 4000000 }) only [dRaise1, dXCall, dXApp, dCaught, dIsE, dXat, dNonE, dRev, dParV, dCallV, dStInt, dStTurn, dStNext, dMixed, dWhileS, dForS, dLcS, dStCells, dStPut, dAppPop, dBegun, dSeq, dCut, dNext, dFrzS, dSet, dSetN, dPar, dParN, dParM, dParNN, dDrop, dRet, dRetN, dIfS, dNever, dBreak, dCont, dAug, dApp, dPutL, dAugL, dIxO, dCBO, dOpO, dOpO2, dTupO, dWhile, dgName, dgNil, dgCons, dgTup, dAsg, dSeqI, dScrI, dRng1, dRng2, dRngN, dZip, dEnum, dFor, dLc, dLc2, dYes, dFrz, dVar, dC, dOp, dOpN, dUn, dChain, dNil, dCons, dTup, dCB, dCBN, dCall, dB, dAnd, dOr, dNot, dAndV, dOrV, dNotV, dIf, dNone, dSome, dSl, dIsi, dIsi2, dListR1, dListR2, dLenScr, dCallS, fLt, fLe, fGt, fGe, fSub, fFdiv, fMod, fPow, fIMul, fInt, fInt0, fCmp, fEq, fAdd, fMul, fRepN, fCatN, fNeg, fIs, fIn, flatD, fIx, fSl, fLen, fAbs, fIntOf, fTwo, fTupOf, fListOf, fIpAdd, DL.seen, ty_int_non, ty_int_bool, ty_int_int, ty_int_str, ty_int_list, ty_int_tuple, ty_bool_non, ty_bool_bool, ty_bool_int, ty_bool_str, ty_bool_list, ty_bool_tuple, ty_str_non, ty_str_bool, ty_str_int, ty_str_str, ty_str_list, ty_str_tuple, ty_list_non, ty_list_bool, ty_list_int, ty_list_str, ty_list_list, ty_list_tuple, ty_tuple_non, ty_tuple_bool, ty_tuple_int, ty_tuple_str, ty_tuple_list, ty_tuple_tuple, ty_dict_non, ty_dict_bool, ty_dict_int, ty_dict_str, ty_dict_list, ty_dict_tuple, Bool.not_false, Bool.not_true, List.getElem?_cons_zero, List.getElem?_cons_succ, List.set_cons_zero, List.set_cons_succ, br_t, br_f, wipeE, ↓reduceIte]
    refine ⟨by have := ok.n1; omega, ?_⟩
    rw [hw]
    refine take_push ?_
    rw [iL, basR, List.map_map, List.getElem?_map, ho]
    rfl
  · rw [hw, take_all]
    simp [iL, basR]
abbrev sc_rests_of : Scope := defScope s_rests_of
theorem scp_rests_of : FnScope N_rests_of ["turning"] sc_rests_of := ⟨rfl, rfl, rfl, by decide +kernel, rfl, by decide +kernel, by decide +kernel⟩
theorem ok_rests_of {P : Program} {w : World} {K : PySem.W.Frag} {mg : Str → Option Value} {base : Heap} (h : Hd K mg) : Fn P w K mg base 1 "rests_of" (spD K phi_rests_of) := by
  obtain ⟨f, fd, F, hm⟩ := h.f_rests_of
  have sc := scp_rests_of
  exact Fn.mk' (fn_pure F scp_rests_of len_rests_of fun cdv A outer s H E hr => ⟨_, d_rests_of, (q_cons (s_asg (pd_v 0) (g_tup 3 (gs_cons (g_name 1 sc.nd) (gs_cons (g_name 2 sc.nd) (gs_cons (g_name 3 sc.nd) gs_nil)))))
  (q_one (s_ret (pd_f (pn_B cn_sort cr_sortedI h.b_sorted boot_sorted (pa_c (pd_f (n_of (l_lc [("onset", 4)] sc.nd (i_seq (pd_v 2)) (blkOk_by (own := [("onset", 4)]) (N := N_rests_of) (sc := sc_rests_of) (by decide +kernel)) (fun _ _ _ _ _ => (g_name 4 sc.nd)) (fun _ _ _ _ _ => t_yes) (fun _ _ _ _ _ => (pd_mod (pd_add (pd_v 3) (pd_v 4)) (pd_v 1)))))) pa_n)))))), rd_rests_of⟩) hm F.kp (F.bindsN fun _ _ _ _ _ _ us hl => match us, hl with | [_], _ => rfl)
/-- the pairs' distances -/
def pairsD (D : Int) (as bs : List Int) : List Int := as.flatMap fun a => bs.map fun b => (a - b) % D
theorem pairs_perm {D : Int} {as as' bs bs' : List Int} (h : as.Perm as') (h' : bs.Perm bs') : (pairsD D as bs).Perm (pairsD D as' bs') :=
  (h.flatMap_right _).trans (perm_flatMap fun a _ => h'.map _)
def meetL (n : Int) (os : List Int) (st : Int) (m : Int) (us : List Int) (sv : Int) : List Int := hist (Int.gcd n m) (pairsD (Int.gcd n m) (basR n os st) (basR m us sv))
def phi_meetings_of : Ph := fun ds P => ∃ n os st m us sv, ds = [tT n os st, tT m us sv] ∧ OkT n os st ∧ OkT m us sv ∧ P (.tuple (iL (meetL n os st m us sv)))
theorem len_meetings_of : ∀ ds Q, phi_meetings_of ds Q → ds.length = 2 := by rintro ds Q ⟨n, os, st, m, us, sv, rfl, _⟩; rfl
/-! meetings_of(one, other): one=0 other=1 divisor=2 found=3 rest=4 beside=5 -/
abbrev N_meetings_of : List Str := ["one", "other", "divisor", "found", "rest", "beside"]
def d_meetings_of : DS := (dSeq (dSet 2 (dCall phi_shared (dCons (dOp fIx (dVar 0) (dC (.int 0))) (dCons (dOp fIx (dVar 1) (dC (.int 0))) dNil))))
  (dSeq (dSetN 3 (dOpN fRepN (dFrz (dCons (dC (.int 0)) dNil)) (dVar 2)))
  (dSeq (dFor (dSeqI (dCall phi_rests_of (dCons (dVar 0) dNil))) (dgName 4)
  (dFor (dSeqI (dCall phi_rests_of (dCons (dVar 1) dNil))) (dgName 5)
  (dAugL 3 (dOp fMod (dOp fSub (dVar 4) (dVar 5)) (dVar 2)) fIpAdd (dC (.int 1)))))
  (dRet (dTupO 3)))))
theorem rd_meetings_of : ∀ ds Q, phi_meetings_of ds Q → d_meetings_of { nx := fun _ => Q .none, rt := fun x _ => Q x } (startE N_meetings_of.length ds) := by
  rintro ds Q ⟨n, os, st, m, us, sv, rfl, ok, ok2, h⟩
  show d_meetings_of _ [C.d (tT n os st), C.d (tT m us sv), .no, .no, .no, .no]
  simp (config := { maxSteps := 4000000 }) only [d_meetings_of, dRaise1, dXCall, dXApp, dCaught, dIsE, dXat, dNonE, dRev, dParV, dCallV, dStInt, dStTurn, dStNext, dMixed, dWhileS, dForS, dLcS, dStCells, dStPut, dAppPop, dBegun, dSeq, dCut, dNext, dFrzS, dSet, dSetN, dPar, dParN, dParM, dParNN, dDrop, dRet, dRetN, dIfS, dNever, dBreak, dCont, dAug, dApp, dPutL, dAugL, dIxO, dCBO, dOpO, dOpO2, dTupO, dWhile, dgName, dgNil, dgCons, dgTup, dAsg, dSeqI, dScrI, dRng1, dRng2, dRngN, dZip, dEnum, dFor, dLc, dLc2, dYes, dFrz, dVar, dC, dOp, dOpN, dUn, dChain, dNil, dCons, dTup, dCB, dCBN, dCall, dB, dAnd, dOr, dNot, dAndV, dOrV, dNotV, dIf, dNone, dSome, dSl, dIsi, dIsi2, dListR1, dListR2, dLenScr, dCallS, fLt, fLe, fGt, fGe, fSub, fFdiv, fMod, fPow, fIMul, fInt, fInt0, fCmp, fEq, fAdd, fMul, fRepN, fCatN, fNeg, fIs, fIn, flatD, fIx, fSl, fLen, fAbs, fIntOf, fTwo, fTupOf, fListOf, fIpAdd, DL.seen, ty_int_non, ty_int_bool, ty_int_int, ty_int_str, ty_int_list, ty_int_tuple, ty_bool_non, ty_bool_bool, ty_bool_int, ty_bool_str, ty_bool_list, ty_bool_tuple, ty_str_non, ty_str_bool, ty_str_int, ty_str_str, ty_str_list, ty_str_tuple, ty_list_non, ty_list_bool, ty_list_int, ty_list_str, ty_list_list, ty_list_tuple, ty_tuple_non, ty_tuple_bool, ty_tuple_int, ty_tuple_str, ty_tuple_list, ty_tuple_tuple, ty_dict_non, ty_dict_bool, ty_dict_int, ty_dict_str, ty_dict_list, ty_dict_tuple, Bool.not_false, Bool.not_true, List.getElem?_cons_zero, List.getElem?_cons_succ, List.set_cons_zero, List.set_cons_succ, br_t, br_f, wipeE, ↓reduceIte]
  refine ⟨_, atI0, _, atI0, n, m, rfl, by have := ok.n1; omega, by have := ok2.n1; omega, ?_⟩
  have g0 : 0 < Int.gcd n m := Int.gcd_pos_of_ne_zero_left _ (by have := ok.n1; omega)
  have g1 : (Int.gcd n m : Int) ≤ 240 := Int.le_trans (Int.gcd_le_left _ (by have := ok.n1; omega)) ok.n2
  generalize hD : Int.gcd n m = D at g0 g1
  unfold meetL at h
  rw [hD] at h
  simp (config := { maxSteps := 4000000 }) only [rep0, dRaise1, dXCall, dXApp, dCaught, dIsE, dXat, dNonE, dRev, dParV, dCallV, dStInt, dStTurn, dStNext, dMixed, dWhileS, dForS, dLcS, dStCells, dStPut, dAppPop, dBegun, dSeq, dCut, dNext, dFrzS, dSet, dSetN, dPar, dParN, dParM, dParNN, dDrop, dRet, dRetN, dIfS, dNever, dBreak, dCont, dAug, dApp, dPutL, dAugL, dIxO, dCBO, dOpO, dOpO2, dTupO, dWhile, dgName, dgNil, dgCons, dgTup, dAsg, dSeqI, dScrI, dRng1, dRng2, dRngN, dZip, dEnum, dFor, dLc, dLc2, dYes, dFrz, dVar, dC, dOp, dOpN, dUn, dChain, dNil, dCons, dTup, dCB, dCBN, dCall, dB, dAnd, dOr, dNot, dAndV, dOrV, dNotV, dIf, dNone, dSome, dSl, dIsi, dIsi2, dListR1, dListR2, dLenScr, dCallS, fLt, fLe, fGt, fGe, fSub, fFdiv, fMod, fPow, fIMul, fInt, fInt0, fCmp, fEq, fAdd, fMul, fRepN, fCatN, fNeg, fIs, fIn, flatD, fIx, fSl, fLen, fAbs, fIntOf, fTwo, fTupOf, fListOf, fIpAdd, DL.seen, ty_int_non, ty_int_bool, ty_int_int, ty_int_str, ty_int_list, ty_int_tuple, ty_bool_non, ty_bool_bool, ty_bool_int, ty_bool_str, ty_bool_list, ty_bool_tuple, ty_str_non, ty_str_bool, ty_str_int, ty_str_str, ty_str_list, ty_str_tuple, ty_list_non, ty_list_bool, ty_list_int, ty_list_str, ty_list_list, ty_list_tuple, ty_tuple_non, ty_tuple_bool, ty_tuple_int, ty_tuple_str, ty_tuple_list, ty_tuple_tuple, ty_dict_non, ty_dict_bool, ty_dict_int, ty_dict_str, ty_dict_list, ty_dict_tuple, Bool.not_false, Bool.not_true, List.getElem?_cons_zero, List.getElem?_cons_succ, List.set_cons_zero, List.set_cons_succ, br_t, br_f, wipeE, ↓reduceIte]
  refine ⟨⟨by omega, by omega, ?_⟩, ?_⟩
  · rw [sizeLine_eq]; simp; omega
  rw [Int.toNat_natCast, ← hist_nil]
  refine ⟨n, os, st, rfl, ok, fun rs hrs => ?_⟩
  refine ⟨fun i E => ∃ l c4 c5, l.Perm (pairsD D (rs.take i) (basR m us sv)) ∧ E = [C.d (tT n os st), C.d (tT m us sv), C.d (.int D), C.l (iL (hist D l)), c4, c5], ⟨[], _, _, .refl _, rfl⟩, ?_, ?_⟩
  · rintro i x E hx ⟨l, c4, c5, hl, rfl⟩
    obtain ⟨a, ha, rfl⟩ := iL_at hx
    simp (config := { maxSteps := 4000000 }) only [dRaise1, dXCall, dXApp, dCaught, dIsE, dXat, dNonE, dRev, dParV, dCallV, dStInt, dStTurn, dStNext, dMixed, dWhileS, dForS, dLcS, dStCells, dStPut, dAppPop, dBegun, dSeq, dCut, dNext, dFrzS, dSet, dSetN, dPar, dParN, dParM, dParNN, dDrop, dRet, dRetN, dIfS, dNever, dBreak, dCont, dAug, dApp, dPutL, dAugL, dIxO, dCBO, dOpO, dOpO2, dTupO, dWhile, dgName, dgNil, dgCons, dgTup, dAsg, dSeqI, dScrI, dRng1, dRng2, dRngN, dZip, dEnum, dFor, dLc, dLc2, dYes, dFrz, dVar, dC, dOp, dOpN, dUn, dChain, dNil, dCons, dTup, dCB, dCBN, dCall, dB, dAnd, dOr, dNot, dAndV, dOrV, dNotV, dIf, dNone, dSome, dSl, dIsi, dIsi2, dListR1, dListR2, dLenScr, dCallS, fLt, fLe, fGt, fGe, fSub, fFdiv, fMod, fPow, fIMul, fInt, fInt0, fCmp, fEq, fAdd, fMul, fRepN, fCatN, fNeg, fIs, fIn, flatD, fIx, fSl, fLen, fAbs, fIntOf, fTwo, fTupOf, fListOf, fIpAdd, DL.seen, ty_int_non, ty_int_bool, ty_int_int, ty_int_str, ty_int_list, ty_int_tuple, ty_bool_non, ty_bool_bool, ty_bool_int, ty_bool_str, ty_bool_list, ty_bool_tuple, ty_str_non, ty_str_bool, ty_str_int, ty_str_str, ty_str_list, ty_str_tuple, ty_list_non, ty_list_bool, ty_list_int, ty_list_str, ty_list_list, ty_list_tuple, ty_tuple_non, ty_tuple_bool, ty_tuple_int, ty_tuple_str, ty_tuple_list, ty_tuple_tuple, ty_dict_non, ty_dict_bool, ty_dict_int, ty_dict_str, ty_dict_list, ty_dict_tuple, Bool.not_false, Bool.not_true, List.getElem?_cons_zero, List.getElem?_cons_succ, List.set_cons_zero, List.set_cons_succ, br_t, br_f, wipeE, ↓reduceIte]
    refine ⟨m, us, sv, rfl, ok2, fun ss hss => ?_⟩
    refine ⟨fun j E => ∃ c5, E = [C.d (tT n os st), C.d (tT m us sv), C.d (.int D), C.l (iL (hist D (l ++ (ss.take j).map fun b => (a - b) % (D : Int)))), C.d (.int a), c5], ⟨_, by rw [List.take_zero, List.map_nil, List.append_nil]⟩, ?_, ?_⟩
    · rintro j y E hy ⟨c5, rfl⟩
      obtain ⟨b, hb, rfl⟩ := iL_at hy
      simp (config := { maxSteps := 4000000 }) only [dRaise1, dXCall, dXApp, dCaught, dIsE, dXat, dNonE, dRev, dParV, dCallV, dStInt, dStTurn, dStNext, dMixed, dWhileS, dForS, dLcS, dStCells, dStPut, dAppPop, dBegun, dSeq, dCut, dNext, dFrzS, dSet, dSetN, dPar, dParN, dParM, dParNN, dDrop, dRet, dRetN, dIfS, dNever, dBreak, dCont, dAug, dApp, dPutL, dAugL, dIxO, dCBO, dOpO, dOpO2, dTupO, dWhile, dgName, dgNil, dgCons, dgTup, dAsg, dSeqI, dScrI, dRng1, dRng2, dRngN, dZip, dEnum, dFor, dLc, dLc2, dYes, dFrz, dVar, dC, dOp, dOpN, dUn, dChain, dNil, dCons, dTup, dCB, dCBN, dCall, dB, dAnd, dOr, dNot, dAndV, dOrV, dNotV, dIf, dNone, dSome, dSl, dIsi, dIsi2, dListR1, dListR2, dLenScr, dCallS, fLt, fLe, fGt, fGe, fSub, fFdiv, fMod, fPow, fIMul, fInt, fInt0, fCmp, fEq, fAdd, fMul, fRepN, fCatN, fNeg, fIs, fIn, flatD, fIx, fSl, fLen, fAbs, fIntOf, fTwo, fTupOf, fListOf, fIpAdd, DL.seen, ty_int_non, ty_int_bool, ty_int_int, ty_int_str, ty_int_list, ty_int_tuple, ty_bool_non, ty_bool_bool, ty_bool_int, ty_bool_str, ty_bool_list, ty_bool_tuple, ty_str_non, ty_str_bool, ty_str_int, ty_str_str, ty_str_list, ty_str_tuple, ty_list_non, ty_list_bool, ty_list_int, ty_list_str, ty_list_list, ty_list_tuple, ty_tuple_non, ty_tuple_bool, ty_tuple_int, ty_tuple_str, ty_tuple_list, ty_tuple_tuple, ty_dict_non, ty_dict_bool, ty_dict_int, ty_dict_str, ty_dict_list, ty_dict_tuple, Bool.not_false, Bool.not_true, List.getElem?_cons_zero, List.getElem?_cons_succ, List.set_cons_zero, List.set_cons_succ, br_t, br_f, wipeE, ↓reduceIte]
      refine ⟨by omega, ?_⟩
      have m0 := Int.emod_nonneg (a - b) (show (D : Int) ≠ 0 by omega)
      have m1 := Int.emod_lt_of_pos (a - b) (show 0 < (D : Int) by omega)
      refine ⟨((a - b) % D).toNat, _, ixN_in m0 (by rw [iL_len, hist_len]; exact m1), by rw [List.getElem?_map, hist_get (by omega)]; rfl, ?_⟩
      simp (config := { maxSteps := 4000000 }) only [dRaise1, dXCall, dXApp, dCaught, dIsE, dXat, dNonE, dRev, dParV, dCallV, dStInt, dStTurn, dStNext, dMixed, dWhileS, dForS, dLcS, dStCells, dStPut, dAppPop, dBegun, dSeq, dCut, dNext, dFrzS, dSet, dSetN, dPar, dParN, dParM, dParNN, dDrop, dRet, dRetN, dIfS, dNever, dBreak, dCont, dAug, dApp, dPutL, dAugL, dIxO, dCBO, dOpO, dOpO2, dTupO, dWhile, dgName, dgNil, dgCons, dgTup, dAsg, dSeqI, dScrI, dRng1, dRng2, dRngN, dZip, dEnum, dFor, dLc, dLc2, dYes, dFrz, dVar, dC, dOp, dOpN, dUn, dChain, dNil, dCons, dTup, dCB, dCBN, dCall, dB, dAnd, dOr, dNot, dAndV, dOrV, dNotV, dIf, dNone, dSome, dSl, dIsi, dIsi2, dListR1, dListR2, dLenScr, dCallS, fLt, fLe, fGt, fGe, fSub, fFdiv, fMod, fPow, fIMul, fInt, fInt0, fCmp, fEq, fAdd, fMul, fRepN, fCatN, fNeg, fIs, fIn, flatD, fIx, fSl, fLen, fAbs, fIntOf, fTwo, fTupOf, fListOf, fIpAdd, DL.seen, ty_int_non, ty_int_bool, ty_int_int, ty_int_str, ty_int_list, ty_int_tuple, ty_bool_non, ty_bool_bool, ty_bool_int, ty_bool_str, ty_bool_list, ty_bool_tuple, ty_str_non, ty_str_bool, ty_str_int, ty_str_str, ty_str_list, ty_str_tuple, ty_list_non, ty_list_bool, ty_list_int, ty_list_str, ty_list_list, ty_list_tuple, ty_tuple_non, ty_tuple_bool, ty_tuple_int, ty_tuple_str, ty_tuple_list, ty_tuple_tuple, ty_dict_non, ty_dict_bool, ty_dict_int, ty_dict_str, ty_dict_list, ty_dict_tuple, Bool.not_false, Bool.not_true, List.getElem?_cons_zero, List.getElem?_cons_succ, List.set_cons_zero, List.set_cons_succ, br_t, br_f, wipeE, ↓reduceIte]
      refine ⟨C.d (.int b), ?_⟩
      rw [iL_set, hist_push m0 m1, map_take hb, List.append_assoc]
      rw [Int.toNat_of_nonneg m0]
    · rintro E ⟨c5, rfl⟩
      refine ⟨_, _, _, ?_, rfl⟩
      rw [iL_len, List.take_length]
      unfold pairsD
      rw [flatMap_take ha]
      exact hl.append (hss.map _)
  · rintro E ⟨l, c4, c5, hl, rfl⟩
    simp (config := { maxSteps := 4000000 }) only [dRaise1, dXCall, dXApp, dCaught, dIsE, dXat, dNonE, dRev, dParV, dCallV, dStInt, dStTurn, dStNext, dMixed, dWhileS, dForS, dLcS, dStCells, dStPut, dAppPop, dBegun, dSeq, dCut, dNext, dFrzS, dSet, dSetN, dPar, dParN, dParM, dParNN, dDrop, dRet, dRetN, dIfS, dNever, dBreak, dCont, dAug, dApp, dPutL, dAugL, dIxO, dCBO, dOpO, dOpO2, dTupO, dWhile, dgName, dgNil, dgCons, dgTup, dAsg, dSeqI, dScrI, dRng1, dRng2, dRngN, dZip, dEnum, dFor, dLc, dLc2, dYes, dFrz, dVar, dC, dOp, dOpN, dUn, dChain, dNil, dCons, dTup, dCB, dCBN, dCall, dB, dAnd, dOr, dNot, dAndV, dOrV, dNotV, dIf, dNone, dSome, dSl, dIsi, dIsi2, dListR1, dListR2, dLenScr, dCallS, fLt, fLe, fGt, fGe, fSub, fFdiv, fMod, fPow, fIMul, fInt, fInt0, fCmp, fEq, fAdd, fMul, fRepN, fCatN, fNeg, fIs, fIn, flatD, fIx, fSl, fLen, fAbs, fIntOf, fTwo, fTupOf, fListOf, fIpAdd, DL.seen, ty_int_non, ty_int_bool, ty_int_int, ty_int_str, ty_int_list, ty_int_tuple, ty_bool_non, ty_bool_bool, ty_bool_int, ty_bool_str, ty_bool_list, ty_bool_tuple, ty_str_non, ty_str_bool, ty_str_int, ty_str_str, ty_str_list, ty_str_tuple, ty_list_non, ty_list_bool, ty_list_int, ty_list_str, ty_list_list, ty_list_tuple, ty_tuple_non, ty_tuple_bool, ty_tuple_int, ty_tuple_str, ty_tuple_list, ty_tuple_tuple, ty_dict_non, ty_dict_bool, ty_dict_int, ty_dict_str, ty_dict_list, ty_dict_tuple, Bool.not_false, Bool.not_true, List.getElem?_cons_zero, List.getElem?_cons_succ, List.set_cons_zero, List.set_cons_succ, br_t, br_f, wipeE, ↓reduceIte]
    rw [iL_len, List.take_length] at hl
    rw [hist_perm (hl.trans (pairs_perm hrs (.refl _)))]
    exact h
abbrev sc_meetings_of : Scope := defScope s_meetings_of
theorem scp_meetings_of : FnScope N_meetings_of ["one", "other"] sc_meetings_of := ⟨rfl, rfl, rfl, by decide +kernel, rfl, by decide +kernel, by decide +kernel⟩
theorem ok_meetings_of {P : Program} {w : World} {K : PySem.W.Frag} {mg : Str → Option Value} {base : Heap} (h : Hd K mg) (c_shared : Fn P w K mg base 1 "shared" (spD K phi_shared)) (c_rests_of : Fn P w K mg base 1 "rests_of" (spD K phi_rests_of)) : Fn P w K mg base 2 "meetings_of" (spD K phi_meetings_of) := by
  obtain ⟨f, fd, F, hm⟩ := h.f_meetings_of
  have sc := scp_meetings_of
  exact Fn.mk' (fn_pure F scp_meetings_of len_meetings_of fun cdv A outer s H E hr => ⟨_, d_meetings_of, (q_cons (s_set 2 sc.nd (pd_call c_shared hr (pa_c (pd_ix (pd_v 0) pd_i) (pa_c (pd_ix (pd_v 1) pd_i) pa_n))))
  (q_cons (s_setN 3 sc.nd (pn_rep (pd_f (pn_lst (pa_c pd_i pa_n))) (pd_v 2)))
  (q_cons (s_for (i_seq (pd_call c_rests_of hr (pa_c (pd_v 0) pa_n))) (g_name 4 sc.nd)
  (q_one (s_for (i_seq (pd_call c_rests_of hr (pa_c (pd_v 1) pa_n))) (g_name 5 sc.nd)
  (q_one (s_augL 3 ip_addA vs_ipAdd (pd_mod (pd_sub (pd_v 4) (pd_v 5)) (pd_v 2)) pd_i)))))
  (q_one (s_ret (pd_tupO 3 h.b_tuple)))))), rd_meetings_of⟩) hm F.kp (F.bindsN fun _ _ _ _ _ _ us hl => match us, hl with | [_, _], _ => rfl)
abbrev phi_meetings : Ph := phi_meetings_of
theorem len_meetings : ∀ ds Q, phi_meetings ds Q → ds.length = 2 := len_meetings_of
/-! meetings(one, other): one=0 other=1 -/
abbrev N_meetings : List Str := ["one", "other"]
def d_meetings : DS := (dSeq (dDrop (dCall phi_need_two (dCons (dVar 0) (dCons (dVar 1) dNil))))
  (dRet (dCall phi_meetings_of (dCons (dVar 0) (dCons (dVar 1) dNil)))))
theorem rd_meetings : ∀ ds Q, phi_meetings ds Q → d_meetings { nx := fun _ => Q .none, rt := fun x _ => Q x } (startE N_meetings.length ds) := by
  rintro ds Q ⟨n, os, st, m, us, sv, rfl, ok, ok2, h⟩
  show d_meetings _ [C.d (tT n os st), C.d (tT m us sv)]
  simp (config := { maxSteps := 4000000 }) only [d_meetings, dRaise1, dXCall, dXApp, dCaught, dIsE, dXat, dNonE, dRev, dParV, dCallV, dStInt, dStTurn, dStNext, dMixed, dWhileS, dForS, dLcS, dStCells, dStPut, dAppPop, dBegun, dSeq, dCut, dNext, dFrzS, dSet, dSetN, dPar, dParN, dParM, dParNN, dDrop, dRet, dRetN, dIfS, dNever, dBreak, dCont, dAug, dApp, dPutL, dAugL, dIxO, dCBO, dOpO, dOpO2, dTupO, dWhile, dgName, dgNil, dgCons, dgTup, dAsg, dSeqI, dScrI, dRng1, dRng2, dRngN, dZip, dEnum, dFor, dLc, dLc2, dYes, dFrz, dVar, dC, dOp, dOpN, dUn, dChain, dNil, dCons, dTup, dCB, dCBN, dCall, dB, dAnd, dOr, dNot, dAndV, dOrV, dNotV, dIf, dNone, dSome, dSl, dIsi, dIsi2, dListR1, dListR2, dLenScr, dCallS, fLt, fLe, fGt, fGe, fSub, fFdiv, fMod, fPow, fIMul, fInt, fInt0, fCmp, fEq, fAdd, fMul, fRepN, fCatN, fNeg, fIs, fIn, flatD, fIx, fSl, fLen, fAbs, fIntOf, fTwo, fTupOf, fListOf, fIpAdd, DL.seen, ty_int_non, ty_int_bool, ty_int_int, ty_int_str, ty_int_list, ty_int_tuple, ty_bool_non, ty_bool_bool, ty_bool_int, ty_bool_str, ty_bool_list, ty_bool_tuple, ty_str_non, ty_str_bool, ty_str_int, ty_str_str, ty_str_list, ty_str_tuple, ty_list_non, ty_list_bool, ty_list_int, ty_list_str, ty_list_list, ty_list_tuple, ty_tuple_non, ty_tuple_bool, ty_tuple_int, ty_tuple_str, ty_tuple_list, ty_tuple_tuple, ty_dict_non, ty_dict_bool, ty_dict_int, ty_dict_str, ty_dict_list, ty_dict_tuple, Bool.not_false, Bool.not_true, List.getElem?_cons_zero, List.getElem?_cons_succ, List.set_cons_zero, List.set_cons_succ, br_t, br_f, wipeE, ↓reduceIte]
  refine ⟨_, _, _, _, _, _, rfl, ok, ok2, ?_⟩
  exact ⟨_, _, _, _, _, _, rfl, ok, ok2, h⟩
abbrev sc_meetings : Scope := defScope s_meetings
theorem scp_meetings : FnScope N_meetings ["one", "other"] sc_meetings := ⟨rfl, rfl, rfl, by decide +kernel, rfl, by decide +kernel, by decide +kernel⟩
theorem ok_meetings {P : Program} {w : World} {K : PySem.W.Frag} {mg : Str → Option Value} {base : Heap} (h : Hd K mg) (c_need_two : Fn P w K mg base 4 "need_two" (spD K phi_need_two)) (c_meetings_of : Fn P w K mg base 2 "meetings_of" (spD K phi_meetings_of)) : Fn P w K mg base 5 "meetings" (spD K phi_meetings) := by
  obtain ⟨f, fd, F, hm⟩ := h.f_meetings
  have sc := scp_meetings
  exact Fn.mk' (fn_pure F scp_meetings len_meetings fun cdv A outer s H E hr => ⟨_, d_meetings, (q_cons (s_drop (pd_call c_need_two hr (pa_c (pd_v 0) (pa_c (pd_v 1) pa_n))))
  (q_one (s_ret (pd_call c_meetings_of hr (pa_c (pd_v 0) (pa_c (pd_v 1) pa_n)))))), rd_meetings⟩) hm F.kp (F.bindsN fun _ _ _ _ _ _ us hl => match us, hl with | [_, _], _ => rfl)
end B12


namespace B12
open PySem PySem.Spec PyProof.Rows L2 DL
/-! the common multiple, the bond -/
def lcmL (ns : List Int) : Int := ns.foldl (fun f x => f / (Int.gcd f x : Int) * x) 1
def phi_least_common : Ph := fun ds P => ∃ ns : List Int, ds = [.list (iL ns)] ∧ (∀ x ∈ ns, 0 < x ∧ x < 2 ^ 64) ∧ P (.int (lcmL ns))
theorem len_least_common : ∀ ds Q, phi_least_common ds Q → ds.length = 1 := by rintro ds Q ⟨n, rfl, _⟩; rfl
/-! least_common(numbers): numbers=0 found=1 number=2 -/
abbrev N_least_common : List Str := ["numbers", "found", "number"]
def d_least_common : DS := (dSeq (dSet 1 (dC (.int 1)))
  (dSeq (dFor (dSeqI (dVar 0)) (dgName 2)
  (dSet 1 (dOp fMul (dOp fFdiv (dVar 1) (dCall phi_shared (dCons (dVar 1) (dCons (dVar 2) dNil)))) (dVar 2))))
  (dRet (dVar 1))))
theorem lcmL_pos : ∀ (ns : List Int) (f : Int), 0 ≤ f → (∀ x ∈ ns, 0 < x ∧ x < 2 ^ 64) → 0 ≤ ns.foldl (fun f x => f / (Int.gcd f x : Int) * x) f
  | [], _, h, _ => h
  | x :: ns, f, h, hn => lcmL_pos ns _ (Int.mul_nonneg (Int.ediv_nonneg h (by omega)) (by have := (hn x List.mem_cons_self).1; omega)) fun y hy => hn y (List.mem_cons_of_mem _ hy)
theorem rd_least_common : ∀ ds Q, phi_least_common ds Q → d_least_common { nx := fun _ => Q .none, rt := fun x _ => Q x } (startE N_least_common.length ds) := by
  rintro ds Q ⟨ns, rfl, hn, h⟩
  show d_least_common _ [C.d (.list (iL ns)), .no, .no]
  simp (config := { maxSteps := 4000000 }) only [d_least_common, dRaise1, dXCall, dXApp, dCaught, dIsE, dXat, dNonE, dRev, dParV, dCallV, dStInt, dStTurn, dStNext, dMixed, dWhileS, dForS, dLcS, dStCells, dStPut, dAppPop, dBegun, dSeq, dCut, dNext, dFrzS, dSet, dSetN, dPar, dParN, dParM, dParNN, dDrop, dRet, dRetN, dIfS, dNever, dBreak, dCont, dAug, dApp, dPutL, dAugL, dIxO, dCBO, dOpO, dOpO2, dTupO, dWhile, dgName, dgNil, dgCons, dgTup, dAsg, dSeqI, dScrI, dRng1, dRng2, dRngN, dZip, dEnum, dFor, dLc, dLc2, dYes, dFrz, dVar, dC, dOp, dOpN, dUn, dChain, dNil, dCons, dTup, dCB, dCBN, dCall, dB, dAnd, dOr, dNot, dAndV, dOrV, dNotV, dIf, dNone, dSome, dSl, dIsi, dIsi2, dListR1, dListR2, dLenScr, dCallS, fLt, fLe, fGt, fGe, fSub, fFdiv, fMod, fPow, fIMul, fInt, fInt0, fCmp, fEq, fAdd, fMul, fRepN, fCatN, fNeg, fIs, fIn, flatD, fIx, fSl, fLen, fAbs, fIntOf, fTwo, fTupOf, fListOf, fIpAdd, DL.seen, ty_int_non, ty_int_bool, ty_int_int, ty_int_str, ty_int_list, ty_int_tuple, ty_bool_non, ty_bool_bool, ty_bool_int, ty_bool_str, ty_bool_list, ty_bool_tuple, ty_str_non, ty_str_bool, ty_str_int, ty_str_str, ty_str_list, ty_str_tuple, ty_list_non, ty_list_bool, ty_list_int, ty_list_str, ty_list_list, ty_list_tuple, ty_tuple_non, ty_tuple_bool, ty_tuple_int, ty_tuple_str, ty_tuple_list, ty_tuple_tuple, ty_dict_non, ty_dict_bool, ty_dict_int, ty_dict_str, ty_dict_list, ty_dict_tuple, Bool.not_false, Bool.not_true, List.getElem?_cons_zero, List.getElem?_cons_succ, List.set_cons_zero, List.set_cons_succ, br_t, br_f, wipeE, ↓reduceIte]
  refine ⟨fun i E => ∃ c2, E = [C.d (.list (iL ns)), C.d (.int (lcmL (ns.take i))), c2], ⟨_, rfl⟩, ?_, ?_⟩
  · rintro i x E hx ⟨c2, rfl⟩
    obtain ⟨a, ha, rfl⟩ := iL_at hx
    have hm := hn a (List.mem_of_getElem? ha)
    simp (config := { maxSteps := 4000000 }) only [dRaise1, dXCall, dXApp, dCaught, dIsE, dXat, dNonE, dRev, dParV, dCallV, dStInt, dStTurn, dStNext, dMixed, dWhileS, dForS, dLcS, dStCells, dStPut, dAppPop, dBegun, dSeq, dCut, dNext, dFrzS, dSet, dSetN, dPar, dParN, dParM, dParNN, dDrop, dRet, dRetN, dIfS, dNever, dBreak, dCont, dAug, dApp, dPutL, dAugL, dIxO, dCBO, dOpO, dOpO2, dTupO, dWhile, dgName, dgNil, dgCons, dgTup, dAsg, dSeqI, dScrI, dRng1, dRng2, dRngN, dZip, dEnum, dFor, dLc, dLc2, dYes, dFrz, dVar, dC, dOp, dOpN, dUn, dChain, dNil, dCons, dTup, dCB, dCBN, dCall, dB, dAnd, dOr, dNot, dAndV, dOrV, dNotV, dIf, dNone, dSome, dSl, dIsi, dIsi2, dListR1, dListR2, dLenScr, dCallS, fLt, fLe, fGt, fGe, fSub, fFdiv, fMod, fPow, fIMul, fInt, fInt0, fCmp, fEq, fAdd, fMul, fRepN, fCatN, fNeg, fIs, fIn, flatD, fIx, fSl, fLen, fAbs, fIntOf, fTwo, fTupOf, fListOf, fIpAdd, DL.seen, ty_int_non, ty_int_bool, ty_int_int, ty_int_str, ty_int_list, ty_int_tuple, ty_bool_non, ty_bool_bool, ty_bool_int, ty_bool_str, ty_bool_list, ty_bool_tuple, ty_str_non, ty_str_bool, ty_str_int, ty_str_str, ty_str_list, ty_str_tuple, ty_list_non, ty_list_bool, ty_list_int, ty_list_str, ty_list_list, ty_list_tuple, ty_tuple_non, ty_tuple_bool, ty_tuple_int, ty_tuple_str, ty_tuple_list, ty_tuple_tuple, ty_dict_non, ty_dict_bool, ty_dict_int, ty_dict_str, ty_dict_list, ty_dict_tuple, Bool.not_false, Bool.not_true, List.getElem?_cons_zero, List.getElem?_cons_succ, List.set_cons_zero, List.set_cons_succ, br_t, br_f, wipeE, ↓reduceIte]
    have hp : 0 ≤ lcmL (ns.take i) := lcmL_pos _ 1 (by decide) fun x hx => hn x (List.mem_of_mem_take hx)
    refine ⟨_, _, rfl, hp, by omega, ?_⟩
    simp (config := { maxSteps := 4000000 }) only [dRaise1, dXCall, dXApp, dCaught, dIsE, dXat, dNonE, dRev, dParV, dCallV, dStInt, dStTurn, dStNext, dMixed, dWhileS, dForS, dLcS, dStCells, dStPut, dAppPop, dBegun, dSeq, dCut, dNext, dFrzS, dSet, dSetN, dPar, dParN, dParM, dParNN, dDrop, dRet, dRetN, dIfS, dNever, dBreak, dCont, dAug, dApp, dPutL, dAugL, dIxO, dCBO, dOpO, dOpO2, dTupO, dWhile, dgName, dgNil, dgCons, dgTup, dAsg, dSeqI, dScrI, dRng1, dRng2, dRngN, dZip, dEnum, dFor, dLc, dLc2, dYes, dFrz, dVar, dC, dOp, dOpN, dUn, dChain, dNil, dCons, dTup, dCB, dCBN, dCall, dB, dAnd, dOr, dNot, dAndV, dOrV, dNotV, dIf, dNone, dSome, dSl, dIsi, dIsi2, dListR1, dListR2, dLenScr, dCallS, fLt, fLe, fGt, fGe, fSub, fFdiv, fMod, fPow, fIMul, fInt, fInt0, fCmp, fEq, fAdd, fMul, fRepN, fCatN, fNeg, fIs, fIn, flatD, fIx, fSl, fLen, fAbs, fIntOf, fTwo, fTupOf, fListOf, fIpAdd, DL.seen, ty_int_non, ty_int_bool, ty_int_int, ty_int_str, ty_int_list, ty_int_tuple, ty_bool_non, ty_bool_bool, ty_bool_int, ty_bool_str, ty_bool_list, ty_bool_tuple, ty_str_non, ty_str_bool, ty_str_int, ty_str_str, ty_str_list, ty_str_tuple, ty_list_non, ty_list_bool, ty_list_int, ty_list_str, ty_list_list, ty_list_tuple, ty_tuple_non, ty_tuple_bool, ty_tuple_int, ty_tuple_str, ty_tuple_list, ty_tuple_tuple, ty_dict_non, ty_dict_bool, ty_dict_int, ty_dict_str, ty_dict_list, ty_dict_tuple, Bool.not_false, Bool.not_true, List.getElem?_cons_zero, List.getElem?_cons_succ, List.set_cons_zero, List.set_cons_succ, br_t, br_f, wipeE, ↓reduceIte]
    have g0 : 0 < Int.gcd (lcmL (ns.take i)) a := Int.gcd_pos_of_ne_zero_right _ (by omega)
    have g1 : (Int.gcd (lcmL (ns.take i)) a : Int) ≤ a := Int.gcd_le_right _ (by omega)
    refine ⟨log_small (by omega) (by omega), .inl (.inr ⟨by omega, by omega⟩), ?_⟩
    refine ⟨C.d (.int a), ?_⟩
    have e : lcmL (ns.take (i + 1)) = lcmL (ns.take i) / (Int.gcd (lcmL (ns.take i)) a : Int) * a := by
      unfold lcmL
      rw [List.take_succ, ha]
      simp [List.foldl_append]
    rw [e]
  · rintro E ⟨c2, rfl⟩
    simp (config := { maxSteps := 4000000 }) only [dRaise1, dXCall, dXApp, dCaught, dIsE, dXat, dNonE, dRev, dParV, dCallV, dStInt, dStTurn, dStNext, dMixed, dWhileS, dForS, dLcS, dStCells, dStPut, dAppPop, dBegun, dSeq, dCut, dNext, dFrzS, dSet, dSetN, dPar, dParN, dParM, dParNN, dDrop, dRet, dRetN, dIfS, dNever, dBreak, dCont, dAug, dApp, dPutL, dAugL, dIxO, dCBO, dOpO, dOpO2, dTupO, dWhile, dgName, dgNil, dgCons, dgTup, dAsg, dSeqI, dScrI, dRng1, dRng2, dRngN, dZip, dEnum, dFor, dLc, dLc2, dYes, dFrz, dVar, dC, dOp, dOpN, dUn, dChain, dNil, dCons, dTup, dCB, dCBN, dCall, dB, dAnd, dOr, dNot, dAndV, dOrV, dNotV, dIf, dNone, dSome, dSl, dIsi, dIsi2, dListR1, dListR2, dLenScr, dCallS, fLt, fLe, fGt, fGe, fSub, fFdiv, fMod, fPow, fIMul, fInt, fInt0, fCmp, fEq, fAdd, fMul, fRepN, fCatN, fNeg, fIs, fIn, flatD, fIx, fSl, fLen, fAbs, fIntOf, fTwo, fTupOf, fListOf, fIpAdd, DL.seen, ty_int_non, ty_int_bool, ty_int_int, ty_int_str, ty_int_list, ty_int_tuple, ty_bool_non, ty_bool_bool, ty_bool_int, ty_bool_str, ty_bool_list, ty_bool_tuple, ty_str_non, ty_str_bool, ty_str_int, ty_str_str, ty_str_list, ty_str_tuple, ty_list_non, ty_list_bool, ty_list_int, ty_list_str, ty_list_list, ty_list_tuple, ty_tuple_non, ty_tuple_bool, ty_tuple_int, ty_tuple_str, ty_tuple_list, ty_tuple_tuple, ty_dict_non, ty_dict_bool, ty_dict_int, ty_dict_str, ty_dict_list, ty_dict_tuple, Bool.not_false, Bool.not_true, List.getElem?_cons_zero, List.getElem?_cons_succ, List.set_cons_zero, List.set_cons_succ, br_t, br_f, wipeE, ↓reduceIte]
    rw [iL_len, List.take_length]
    exact h
abbrev sc_least_common : Scope := defScope s_least_common
theorem scp_least_common : FnScope N_least_common ["numbers"] sc_least_common := ⟨rfl, rfl, rfl, by decide +kernel, rfl, by decide +kernel, by decide +kernel⟩
theorem ok_least_common {P : Program} {w : World} {K : PySem.W.Frag} {mg : Str → Option Value} {base : Heap} (h : Hd K mg) (c_shared : Fn P w K mg base 1 "shared" (spD K phi_shared)) : Fn P w K mg base 2 "least_common" (spD K phi_least_common) := by
  obtain ⟨f, fd, F, hm⟩ := h.f_least_common
  have sc := scp_least_common
  exact Fn.mk' (fn_pure F scp_least_common len_least_common fun cdv A outer s H E hr => ⟨_, d_least_common, (q_cons (s_set 1 sc.nd pd_i)
  (q_cons (s_for (i_seq (pd_v 0)) (g_name 2 sc.nd)
  (q_one (s_set 1 sc.nd (pd_mul (pd_fdiv (pd_v 1) (pd_call c_shared hr (pa_c (pd_v 1) (pa_c (pd_v 2) pa_n)))) (pd_v 2)))))
  (q_one (s_ret (pd_v 1))))), rd_least_common⟩) hm F.kp (F.bindsN fun _ _ _ _ _ _ us hl => match us, hl with | [_], _ => rfl)
def phi_bond_of : Ph := fun ds P => ∃ n os st m us sv, ds = [.list [tT n os st, tT m us sv]] ∧ OkT n os st ∧ OkT m us sv ∧ P (.int (Int.gcd n m))
theorem len_bond_of : ∀ ds Q, phi_bond_of ds Q → ds.length = 1 := by rintro ds Q ⟨n, os, st, m, us, sv, rfl, _⟩; rfl
/-! bond_of(turnings): turnings=0 lengths=1 some=2 turning=3 at=4 one=5 other=6 -/
abbrev N_bond_of : List Str := ["turnings", "lengths", "some", "turning", "at", "one", "other"]
def d_bond_of : DS := (dSeq (dSet 1 (dFrz (dLc (dSeqI (dVar 0)) (dgName 3) dYes (dOp fIx (dVar 3) (dC (.int 0))) [3])))
  (dSeq (dSet 2 (dFrz (dLc2 (dEnum (dCons (dVar 1) dNil)) (dgTup 2 (dgCons (dgName 4) (dgCons (dgName 5) dgNil))) dYes (dSeqI (dSl fSl (dVar 1) (dSome (dOp fAdd (dVar 4) (dC (.int 1)))) dNone)) (dgName 6) dYes (dCall phi_shared (dCons (dVar 5) (dCons (dVar 6) dNil))) [4, 5, 6] [6])))
  (dRet (dCall phi_least_common (dCons (dVar 2) dNil)))))
theorem two_at {x y d : PyData} {i : Nat} (h : [x, y][i]? = some d) : (i = 0 ∧ d = x) ∨ (i = 1 ∧ d = y) := by
  match i, h with
  | 0, h => exact .inl ⟨rfl, (Option.some.inj h).symm⟩
  | 1, h => exact .inr ⟨rfl, (Option.some.inj h).symm⟩
theorem rd_bond_of : ∀ ds Q, phi_bond_of ds Q → d_bond_of { nx := fun _ => Q .none, rt := fun x _ => Q x } (startE N_bond_of.length ds) := by
  rintro ds Q ⟨n, os, st, m, us, sv, rfl, ok, ok2, h⟩
  show d_bond_of _ [C.d (.list [tT n os st, tT m us sv]), .no, .no, .no, .no, .no, .no]
  simp (config := { maxSteps := 4000000 }) only [d_bond_of, dRaise1, dXCall, dXApp, dCaught, dIsE, dXat, dNonE, dRev, dParV, dCallV, dStInt, dStTurn, dStNext, dMixed, dWhileS, dForS, dLcS, dStCells, dStPut, dAppPop, dBegun, dSeq, dCut, dNext, dFrzS, dSet, dSetN, dPar, dParN, dParM, dParNN, dDrop, dRet, dRetN, dIfS, dNever, dBreak, dCont, dAug, dApp, dPutL, dAugL, dIxO, dCBO, dOpO, dOpO2, dTupO, dWhile, dgName, dgNil, dgCons, dgTup, dAsg, dSeqI, dScrI, dRng1, dRng2, dRngN, dZip, dEnum, dFor, dLc, dLc2, dYes, dFrz, dVar, dC, dOp, dOpN, dUn, dChain, dNil, dCons, dTup, dCB, dCBN, dCall, dB, dAnd, dOr, dNot, dAndV, dOrV, dNotV, dIf, dNone, dSome, dSl, dIsi, dIsi2, dListR1, dListR2, dLenScr, dCallS, fLt, fLe, fGt, fGe, fSub, fFdiv, fMod, fPow, fIMul, fInt, fInt0, fCmp, fEq, fAdd, fMul, fRepN, fCatN, fNeg, fIs, fIn, flatD, fIx, fSl, fLen, fAbs, fIntOf, fTwo, fTupOf, fListOf, fIpAdd, DL.seen, ty_int_non, ty_int_bool, ty_int_int, ty_int_str, ty_int_list, ty_int_tuple, ty_bool_non, ty_bool_bool, ty_bool_int, ty_bool_str, ty_bool_list, ty_bool_tuple, ty_str_non, ty_str_bool, ty_str_int, ty_str_str, ty_str_list, ty_str_tuple, ty_list_non, ty_list_bool, ty_list_int, ty_list_str, ty_list_list, ty_list_tuple, ty_tuple_non, ty_tuple_bool, ty_tuple_int, ty_tuple_str, ty_tuple_list, ty_tuple_tuple, ty_dict_non, ty_dict_bool, ty_dict_int, ty_dict_str, ty_dict_list, ty_dict_tuple, Bool.not_false, Bool.not_true, List.getElem?_cons_zero, List.getElem?_cons_succ, List.set_cons_zero, List.set_cons_succ, br_t, br_f, wipeE, ↓reduceIte]
  have g0 : 0 < Int.gcd n m := Int.gcd_pos_of_ne_zero_left _ (by have := ok.n1; omega)
  have g1 : (Int.gcd n m : Int) ≤ 240 := Int.le_trans (Int.gcd_le_left _ (by have := ok.n1; omega)) ok.n2
  refine ⟨rfl, fun i acc => acc = (iL [n, m]).take i, rfl, line_big (by decide : 2 ≤ 1000), fun i x acc hx hw => ?_, fun acc hw => ?_⟩
  · rw [hw]
    rcases two_at hx with ⟨rfl, rfl⟩ | ⟨rfl, rfl⟩
    · exact ⟨_, atI0, take_push rfl⟩
    · exact ⟨_, atI0, take_push rfl⟩
  · rw [show acc = [PyData.int n, .int m] from hw]
    refine ⟨rfl, fun i acc => acc = if i = 0 then [] else [PyData.int (Int.gcd n m)], rfl, fun i x acc hx hw => ?_, fun acc hw => ?_⟩
    · obtain ⟨a, ha, rfl⟩ := enD_at hx
      rcases two_at ha with ⟨rfl, rfl⟩ | ⟨rfl, rfl⟩
      · simp (config := { maxSteps := 4000000 }) only [dRaise1, dXCall, dXApp, dCaught, dIsE, dXat, dNonE, dRev, dParV, dCallV, dStInt, dStTurn, dStNext, dMixed, dWhileS, dForS, dLcS, dStCells, dStPut, dAppPop, dBegun, dSeq, dCut, dNext, dFrzS, dSet, dSetN, dPar, dParN, dParM, dParNN, dDrop, dRet, dRetN, dIfS, dNever, dBreak, dCont, dAug, dApp, dPutL, dAugL, dIxO, dCBO, dOpO, dOpO2, dTupO, dWhile, dgName, dgNil, dgCons, dgTup, dAsg, dSeqI, dScrI, dRng1, dRng2, dRngN, dZip, dEnum, dFor, dLc, dLc2, dYes, dFrz, dVar, dC, dOp, dOpN, dUn, dChain, dNil, dCons, dTup, dCB, dCBN, dCall, dB, dAnd, dOr, dNot, dAndV, dOrV, dNotV, dIf, dNone, dSome, dSl, dIsi, dIsi2, dListR1, dListR2, dLenScr, dCallS, fLt, fLe, fGt, fGe, fSub, fFdiv, fMod, fPow, fIMul, fInt, fInt0, fCmp, fEq, fAdd, fMul, fRepN, fCatN, fNeg, fIs, fIn, flatD, fIx, fSl, fLen, fAbs, fIntOf, fTwo, fTupOf, fListOf, fIpAdd, DL.seen, ty_int_non, ty_int_bool, ty_int_int, ty_int_str, ty_int_list, ty_int_tuple, ty_bool_non, ty_bool_bool, ty_bool_int, ty_bool_str, ty_bool_list, ty_bool_tuple, ty_str_non, ty_str_bool, ty_str_int, ty_str_str, ty_str_list, ty_str_tuple, ty_list_non, ty_list_bool, ty_list_int, ty_list_str, ty_list_list, ty_list_tuple, ty_tuple_non, ty_tuple_bool, ty_tuple_int, ty_tuple_str, ty_tuple_list, ty_tuple_tuple, ty_dict_non, ty_dict_bool, ty_dict_int, ty_dict_str, ty_dict_list, ty_dict_tuple, Bool.not_false, Bool.not_true, List.getElem?_cons_zero, List.getElem?_cons_succ, List.set_cons_zero, List.set_cons_succ, br_t, br_f, wipeE, ↓reduceIte]
        rw [show acc = [] from hw]
        refine ⟨rfl, rfl, fun j acc => acc = (iL [(Int.gcd n m : Int)]).take j, rfl, fun j y acc1 hy hw1 => ?_, fun acc1 hw1 => hw1⟩
        match j, hy with
        | 0, hy =>
          have ey : y = .int m := (Option.some.inj hy).symm
          subst ey
          refine ⟨n, m, rfl, by have := ok.n1; omega, by have := ok2.n1; omega, ?_⟩
          rw [hw1]
          exact ⟨line_big (by decide : 0 ≤ 1000), rfl⟩
      · simp (config := { maxSteps := 4000000 }) only [dRaise1, dXCall, dXApp, dCaught, dIsE, dXat, dNonE, dRev, dParV, dCallV, dStInt, dStTurn, dStNext, dMixed, dWhileS, dForS, dLcS, dStCells, dStPut, dAppPop, dBegun, dSeq, dCut, dNext, dFrzS, dSet, dSetN, dPar, dParN, dParM, dParNN, dDrop, dRet, dRetN, dIfS, dNever, dBreak, dCont, dAug, dApp, dPutL, dAugL, dIxO, dCBO, dOpO, dOpO2, dTupO, dWhile, dgName, dgNil, dgCons, dgTup, dAsg, dSeqI, dScrI, dRng1, dRng2, dRngN, dZip, dEnum, dFor, dLc, dLc2, dYes, dFrz, dVar, dC, dOp, dOpN, dUn, dChain, dNil, dCons, dTup, dCB, dCBN, dCall, dB, dAnd, dOr, dNot, dAndV, dOrV, dNotV, dIf, dNone, dSome, dSl, dIsi, dIsi2, dListR1, dListR2, dLenScr, dCallS, fLt, fLe, fGt, fGe, fSub, fFdiv, fMod, fPow, fIMul, fInt, fInt0, fCmp, fEq, fAdd, fMul, fRepN, fCatN, fNeg, fIs, fIn, flatD, fIx, fSl, fLen, fAbs, fIntOf, fTwo, fTupOf, fListOf, fIpAdd, DL.seen, ty_int_non, ty_int_bool, ty_int_int, ty_int_str, ty_int_list, ty_int_tuple, ty_bool_non, ty_bool_bool, ty_bool_int, ty_bool_str, ty_bool_list, ty_bool_tuple, ty_str_non, ty_str_bool, ty_str_int, ty_str_str, ty_str_list, ty_str_tuple, ty_list_non, ty_list_bool, ty_list_int, ty_list_str, ty_list_list, ty_list_tuple, ty_tuple_non, ty_tuple_bool, ty_tuple_int, ty_tuple_str, ty_tuple_list, ty_tuple_tuple, ty_dict_non, ty_dict_bool, ty_dict_int, ty_dict_str, ty_dict_list, ty_dict_tuple, Bool.not_false, Bool.not_true, List.getElem?_cons_zero, List.getElem?_cons_succ, List.set_cons_zero, List.set_cons_succ, br_t, br_f, wipeE, ↓reduceIte]
        rw [show acc = [.int (Int.gcd n m)] from hw]
        exact ⟨rfl, rfl, fun j acc => acc = [PyData.int (Int.gcd n m)], rfl, fun j y acc1 hy hw1 => (by cases hy), fun acc1 hw1 => hw1⟩
    · rw [show acc = iL [(Int.gcd n m : Int)] from hw]
      refine ⟨_, rfl, fun x hx => ?_, ?_⟩
      · rw [List.mem_singleton.mp hx]
        omega
      · have e : lcmL [(Int.gcd n m : Int)] = Int.gcd n m := by
          unfold lcmL
          simp
        rw [e]
        exact h
abbrev sc_bond_of : Scope := defScope s_bond_of
theorem scp_bond_of : FnScope N_bond_of ["turnings"] sc_bond_of := ⟨rfl, rfl, rfl, by decide +kernel, rfl, by decide +kernel, by decide +kernel⟩
theorem ok_bond_of {P : Program} {w : World} {K : PySem.W.Frag} {mg : Str → Option Value} {base : Heap} (h : Hd K mg) (c_shared : Fn P w K mg base 1 "shared" (spD K phi_shared)) (c_least_common : Fn P w K mg base 2 "least_common" (spD K phi_least_common)) : Fn P w K mg base 3 "bond_of" (spD K phi_bond_of) := by
  obtain ⟨f, fd, F, hm⟩ := h.f_bond_of
  have sc := scp_bond_of
  exact Fn.mk' (fn_pure F scp_bond_of len_bond_of fun cdv A outer s H E hr => ⟨_, d_bond_of, (q_cons (s_set 1 sc.nd (pd_f (n_of (l_lc [("turning", 3)] sc.nd (i_seq (pd_v 0)) (blkOk_by (own := [("turning", 3)]) (N := N_bond_of) (sc := sc_bond_of) (by decide +kernel)) (fun _ _ _ _ _ => (g_name 3 sc.nd)) (fun _ _ _ _ _ => t_yes) (fun _ _ _ _ _ => (pd_ix (pd_v 3) pd_i))))))
  (q_cons (s_setLc 2 (l_lc2 [("at", 4), ("one", 5), ("other", 6)] [6] sc.nd (i_enum h.b_enumerate (pa_c (pd_v 1) pa_n)) (blkOk_by (own := [("at", 4), ("one", 5), ("other", 6)]) (N := N_bond_of) (sc := sc_bond_of) (by decide +kernel)) (fun _ _ _ _ _ => (g_tup 2 (gs_cons (g_name 4 sc.nd) (gs_cons (g_name 5 sc.nd) gs_nil)))) (fun _ _ _ _ _ => t_yes) (fun _ _ _ _ _ => (i_seq (pd_sl (pd_v 1) (po_s (pd_add (pd_v 4) pd_i)) po_n))) (fun _ _ _ _ _ => (g_name 6 sc.nd)) (fun _ _ _ _ _ => t_yes) (fun _ _ _ _ _ => (pd_call c_shared hr (pa_c (pd_v 5) (pa_c (pd_v 6) pa_n))))))
  (q_one (s_ret (pd_call c_least_common hr (pa_c (pd_v 2) pa_n)))))), rd_bond_of⟩) hm F.kp (F.bindsN fun _ _ _ _ _ _ us hl => match us, hl with | [_], _ => rfl)
def phi_need_turnings : Ph := fun ds P => ∃ n os st m us sv, ds = [.list [tT n os st, tT m us sv]] ∧ OkT n os st ∧ OkT m us sv ∧ P .none
theorem len_need_turnings : ∀ ds Q, phi_need_turnings ds Q → ds.length = 1 := by rintro ds Q ⟨n, os, st, m, us, sv, rfl, _⟩; rfl
/-! need_turnings(turnings): turnings=0 index=1 turning=2 -/
abbrev N_need_turnings : List Str := ["turnings", "index", "turning"]
def d_need_turnings : DS := (dSeq (dIfS (dOr (dNot (dB (dIsi2 "list" "tuple" (dVar 0)))) (dNot (dB (dChain fLe fLe (dC (.int 1)) (dCB fLen (dCons (dVar 0) dNil)) (dC (.int 6))))))
  dNever
  dNext)
  (dFor (dEnum (dCons (dVar 0) dNil)) (dgTup 2 (dgCons (dgName 1) (dgCons (dgName 2) dgNil)))
  (dIfS (dNot (dB (dCall phi_is_turning (dCons (dVar 2) dNil))))
  dNever
  dNext)))
theorem rd_need_turnings : ∀ ds Q, phi_need_turnings ds Q → d_need_turnings { nx := fun _ => Q .none, rt := fun x _ => Q x } (startE N_need_turnings.length ds) := by
  rintro ds Q ⟨n, os, st, m, us, sv, rfl, ok, ok2, h⟩
  show d_need_turnings _ [C.d (.list [tT n os st, tT m us sv]), .no, .no]
  simp (config := { maxSteps := 4000000 }) only [d_need_turnings, Bool.true_or, dRaise1, dXCall, dXApp, dCaught, dIsE, dXat, dNonE, dRev, dParV, dCallV, dStInt, dStTurn, dStNext, dMixed, dWhileS, dForS, dLcS, dStCells, dStPut, dAppPop, dBegun, dSeq, dCut, dNext, dFrzS, dSet, dSetN, dPar, dParN, dParM, dParNN, dDrop, dRet, dRetN, dIfS, dNever, dBreak, dCont, dAug, dApp, dPutL, dAugL, dIxO, dCBO, dOpO, dOpO2, dTupO, dWhile, dgName, dgNil, dgCons, dgTup, dAsg, dSeqI, dScrI, dRng1, dRng2, dRngN, dZip, dEnum, dFor, dLc, dLc2, dYes, dFrz, dVar, dC, dOp, dOpN, dUn, dChain, dNil, dCons, dTup, dCB, dCBN, dCall, dB, dAnd, dOr, dNot, dAndV, dOrV, dNotV, dIf, dNone, dSome, dSl, dIsi, dIsi2, dListR1, dListR2, dLenScr, dCallS, fLt, fLe, fGt, fGe, fSub, fFdiv, fMod, fPow, fIMul, fInt, fInt0, fCmp, fEq, fAdd, fMul, fRepN, fCatN, fNeg, fIs, fIn, flatD, fIx, fSl, fLen, fAbs, fIntOf, fTwo, fTupOf, fListOf, fIpAdd, DL.seen, ty_int_non, ty_int_bool, ty_int_int, ty_int_str, ty_int_list, ty_int_tuple, ty_bool_non, ty_bool_bool, ty_bool_int, ty_bool_str, ty_bool_list, ty_bool_tuple, ty_str_non, ty_str_bool, ty_str_int, ty_str_str, ty_str_list, ty_str_tuple, ty_list_non, ty_list_bool, ty_list_int, ty_list_str, ty_list_list, ty_list_tuple, ty_tuple_non, ty_tuple_bool, ty_tuple_int, ty_tuple_str, ty_tuple_list, ty_tuple_tuple, ty_dict_non, ty_dict_bool, ty_dict_int, ty_dict_str, ty_dict_list, ty_dict_tuple, Bool.not_false, Bool.not_true, List.getElem?_cons_zero, List.getElem?_cons_succ, List.set_cons_zero, List.set_cons_succ, br_t, br_f, wipeE, ↓reduceIte]
  have e1 : decide ((1 : Int) ≤ ([tT n os st, tT m us sv].length : Int)) = true := rfl
  have e2 : decide (([tT n os st, tT m us sv].length : Int) ≤ 6) = true := rfl
  simp (config := { maxSteps := 4000000 }) only [e1, e2, dRaise1, dXCall, dXApp, dCaught, dIsE, dXat, dNonE, dRev, dParV, dCallV, dStInt, dStTurn, dStNext, dMixed, dWhileS, dForS, dLcS, dStCells, dStPut, dAppPop, dBegun, dSeq, dCut, dNext, dFrzS, dSet, dSetN, dPar, dParN, dParM, dParNN, dDrop, dRet, dRetN, dIfS, dNever, dBreak, dCont, dAug, dApp, dPutL, dAugL, dIxO, dCBO, dOpO, dOpO2, dTupO, dWhile, dgName, dgNil, dgCons, dgTup, dAsg, dSeqI, dScrI, dRng1, dRng2, dRngN, dZip, dEnum, dFor, dLc, dLc2, dYes, dFrz, dVar, dC, dOp, dOpN, dUn, dChain, dNil, dCons, dTup, dCB, dCBN, dCall, dB, dAnd, dOr, dNot, dAndV, dOrV, dNotV, dIf, dNone, dSome, dSl, dIsi, dIsi2, dListR1, dListR2, dLenScr, dCallS, fLt, fLe, fGt, fGe, fSub, fFdiv, fMod, fPow, fIMul, fInt, fInt0, fCmp, fEq, fAdd, fMul, fRepN, fCatN, fNeg, fIs, fIn, flatD, fIx, fSl, fLen, fAbs, fIntOf, fTwo, fTupOf, fListOf, fIpAdd, DL.seen, ty_int_non, ty_int_bool, ty_int_int, ty_int_str, ty_int_list, ty_int_tuple, ty_bool_non, ty_bool_bool, ty_bool_int, ty_bool_str, ty_bool_list, ty_bool_tuple, ty_str_non, ty_str_bool, ty_str_int, ty_str_str, ty_str_list, ty_str_tuple, ty_list_non, ty_list_bool, ty_list_int, ty_list_str, ty_list_list, ty_list_tuple, ty_tuple_non, ty_tuple_bool, ty_tuple_int, ty_tuple_str, ty_tuple_list, ty_tuple_tuple, ty_dict_non, ty_dict_bool, ty_dict_int, ty_dict_str, ty_dict_list, ty_dict_tuple, Bool.not_false, Bool.not_true, List.getElem?_cons_zero, List.getElem?_cons_succ, List.set_cons_zero, List.set_cons_succ, br_t, br_f, wipeE, ↓reduceIte]
  refine ⟨fun i E => ∃ c1 c2, E = [C.d (.list [tT n os st, tT m us sv]), c1, c2], ⟨_, _, rfl⟩, ?_, ?_⟩
  · rintro i x E hx ⟨c1, c2, rfl⟩
    obtain ⟨a, ha, rfl⟩ := enD_at hx
    simp (config := { maxSteps := 4000000 }) only [dRaise1, dXCall, dXApp, dCaught, dIsE, dXat, dNonE, dRev, dParV, dCallV, dStInt, dStTurn, dStNext, dMixed, dWhileS, dForS, dLcS, dStCells, dStPut, dAppPop, dBegun, dSeq, dCut, dNext, dFrzS, dSet, dSetN, dPar, dParN, dParM, dParNN, dDrop, dRet, dRetN, dIfS, dNever, dBreak, dCont, dAug, dApp, dPutL, dAugL, dIxO, dCBO, dOpO, dOpO2, dTupO, dWhile, dgName, dgNil, dgCons, dgTup, dAsg, dSeqI, dScrI, dRng1, dRng2, dRngN, dZip, dEnum, dFor, dLc, dLc2, dYes, dFrz, dVar, dC, dOp, dOpN, dUn, dChain, dNil, dCons, dTup, dCB, dCBN, dCall, dB, dAnd, dOr, dNot, dAndV, dOrV, dNotV, dIf, dNone, dSome, dSl, dIsi, dIsi2, dListR1, dListR2, dLenScr, dCallS, fLt, fLe, fGt, fGe, fSub, fFdiv, fMod, fPow, fIMul, fInt, fInt0, fCmp, fEq, fAdd, fMul, fRepN, fCatN, fNeg, fIs, fIn, flatD, fIx, fSl, fLen, fAbs, fIntOf, fTwo, fTupOf, fListOf, fIpAdd, DL.seen, ty_int_non, ty_int_bool, ty_int_int, ty_int_str, ty_int_list, ty_int_tuple, ty_bool_non, ty_bool_bool, ty_bool_int, ty_bool_str, ty_bool_list, ty_bool_tuple, ty_str_non, ty_str_bool, ty_str_int, ty_str_str, ty_str_list, ty_str_tuple, ty_list_non, ty_list_bool, ty_list_int, ty_list_str, ty_list_list, ty_list_tuple, ty_tuple_non, ty_tuple_bool, ty_tuple_int, ty_tuple_str, ty_tuple_list, ty_tuple_tuple, ty_dict_non, ty_dict_bool, ty_dict_int, ty_dict_str, ty_dict_list, ty_dict_tuple, Bool.not_false, Bool.not_true, List.getElem?_cons_zero, List.getElem?_cons_succ, List.set_cons_zero, List.set_cons_succ, br_t, br_f, wipeE, ↓reduceIte]
    rcases two_at ha with ⟨rfl, rfl⟩ | ⟨rfl, rfl⟩
    · refine ⟨rfl, _, _, _, rfl, ok, ?_⟩
      simp (config := { maxSteps := 4000000 }) only [dRaise1, dXCall, dXApp, dCaught, dIsE, dXat, dNonE, dRev, dParV, dCallV, dStInt, dStTurn, dStNext, dMixed, dWhileS, dForS, dLcS, dStCells, dStPut, dAppPop, dBegun, dSeq, dCut, dNext, dFrzS, dSet, dSetN, dPar, dParN, dParM, dParNN, dDrop, dRet, dRetN, dIfS, dNever, dBreak, dCont, dAug, dApp, dPutL, dAugL, dIxO, dCBO, dOpO, dOpO2, dTupO, dWhile, dgName, dgNil, dgCons, dgTup, dAsg, dSeqI, dScrI, dRng1, dRng2, dRngN, dZip, dEnum, dFor, dLc, dLc2, dYes, dFrz, dVar, dC, dOp, dOpN, dUn, dChain, dNil, dCons, dTup, dCB, dCBN, dCall, dB, dAnd, dOr, dNot, dAndV, dOrV, dNotV, dIf, dNone, dSome, dSl, dIsi, dIsi2, dListR1, dListR2, dLenScr, dCallS, fLt, fLe, fGt, fGe, fSub, fFdiv, fMod, fPow, fIMul, fInt, fInt0, fCmp, fEq, fAdd, fMul, fRepN, fCatN, fNeg, fIs, fIn, flatD, fIx, fSl, fLen, fAbs, fIntOf, fTwo, fTupOf, fListOf, fIpAdd, DL.seen, ty_int_non, ty_int_bool, ty_int_int, ty_int_str, ty_int_list, ty_int_tuple, ty_bool_non, ty_bool_bool, ty_bool_int, ty_bool_str, ty_bool_list, ty_bool_tuple, ty_str_non, ty_str_bool, ty_str_int, ty_str_str, ty_str_list, ty_str_tuple, ty_list_non, ty_list_bool, ty_list_int, ty_list_str, ty_list_list, ty_list_tuple, ty_tuple_non, ty_tuple_bool, ty_tuple_int, ty_tuple_str, ty_tuple_list, ty_tuple_tuple, ty_dict_non, ty_dict_bool, ty_dict_int, ty_dict_str, ty_dict_list, ty_dict_tuple, Bool.not_false, Bool.not_true, List.getElem?_cons_zero, List.getElem?_cons_succ, List.set_cons_zero, List.set_cons_succ, br_t, br_f, wipeE, ↓reduceIte]
      exact ⟨_, _, rfl⟩
    · refine ⟨rfl, _, _, _, rfl, ok2, ?_⟩
      simp (config := { maxSteps := 4000000 }) only [dRaise1, dXCall, dXApp, dCaught, dIsE, dXat, dNonE, dRev, dParV, dCallV, dStInt, dStTurn, dStNext, dMixed, dWhileS, dForS, dLcS, dStCells, dStPut, dAppPop, dBegun, dSeq, dCut, dNext, dFrzS, dSet, dSetN, dPar, dParN, dParM, dParNN, dDrop, dRet, dRetN, dIfS, dNever, dBreak, dCont, dAug, dApp, dPutL, dAugL, dIxO, dCBO, dOpO, dOpO2, dTupO, dWhile, dgName, dgNil, dgCons, dgTup, dAsg, dSeqI, dScrI, dRng1, dRng2, dRngN, dZip, dEnum, dFor, dLc, dLc2, dYes, dFrz, dVar, dC, dOp, dOpN, dUn, dChain, dNil, dCons, dTup, dCB, dCBN, dCall, dB, dAnd, dOr, dNot, dAndV, dOrV, dNotV, dIf, dNone, dSome, dSl, dIsi, dIsi2, dListR1, dListR2, dLenScr, dCallS, fLt, fLe, fGt, fGe, fSub, fFdiv, fMod, fPow, fIMul, fInt, fInt0, fCmp, fEq, fAdd, fMul, fRepN, fCatN, fNeg, fIs, fIn, flatD, fIx, fSl, fLen, fAbs, fIntOf, fTwo, fTupOf, fListOf, fIpAdd, DL.seen, ty_int_non, ty_int_bool, ty_int_int, ty_int_str, ty_int_list, ty_int_tuple, ty_bool_non, ty_bool_bool, ty_bool_int, ty_bool_str, ty_bool_list, ty_bool_tuple, ty_str_non, ty_str_bool, ty_str_int, ty_str_str, ty_str_list, ty_str_tuple, ty_list_non, ty_list_bool, ty_list_int, ty_list_str, ty_list_list, ty_list_tuple, ty_tuple_non, ty_tuple_bool, ty_tuple_int, ty_tuple_str, ty_tuple_list, ty_tuple_tuple, ty_dict_non, ty_dict_bool, ty_dict_int, ty_dict_str, ty_dict_list, ty_dict_tuple, Bool.not_false, Bool.not_true, List.getElem?_cons_zero, List.getElem?_cons_succ, List.set_cons_zero, List.set_cons_succ, br_t, br_f, wipeE, ↓reduceIte]
      exact ⟨_, _, rfl⟩
  · rintro E ⟨c1, c2, rfl⟩
    exact h
abbrev sc_need_turnings : Scope := defScope s_need_turnings
theorem scp_need_turnings : FnScope N_need_turnings ["turnings"] sc_need_turnings := ⟨rfl, rfl, rfl, by decide +kernel, rfl, by decide +kernel, by decide +kernel⟩
theorem ok_need_turnings {P : Program} {w : World} {K : PySem.W.Frag} {mg : Str → Option Value} {base : Heap} (h : Hd K mg) (c_is_turning : Fn P w K mg base 3 "is_turning" (spD K phi_is_turning)) : Fn P w K mg base 4 "need_turnings" (spD K phi_need_turnings) := by
  obtain ⟨f, fd, F, hm⟩ := h.f_need_turnings
  have sc := scp_need_turnings
  exact Fn.mk' (fn_pure F scp_need_turnings len_need_turnings fun cdv A outer s H E hr => ⟨_, d_need_turnings, (q_cons (s_if (pt_w (pw_o (pt_n (pt_e (pd_isi2 (by rfl) h.b_isinstance (by rfl) h.b_list boot_list (by decide) (by rfl) h.b_tuple boot_tuple (by decide) (pd_v 0)))) (pw_o1 (pt_n (pt_chain' c_le c_le pd_i (pd_B cs_len call_len h.b_len PySem.boot_len (pa_c (pd_v 0) pa_n)) (pd_g h.g_MOST_TURNINGS))))))
  (q_one s_never)
  q_nil)
  (q_one (s_for (i_enum h.b_enumerate (pa_c (pd_v 0) pa_n)) (g_tup 2 (gs_cons (g_name 1 sc.nd) (gs_cons (g_name 2 sc.nd) gs_nil)))
  (q_one (s_if (pt_n (pt_e (pd_call c_is_turning hr (pa_c (pd_v 2) pa_n))))
  (q_one s_never)
  q_nil))))), rd_need_turnings⟩) hm F.kp (F.bindsN fun _ _ _ _ _ _ us hl => match us, hl with | [_], _ => rfl)
abbrev phi_need_bond : Ph := phi_bond_of
theorem len_need_bond : ∀ ds Q, phi_need_bond ds Q → ds.length = 1 := len_bond_of
/-! need_bond(turnings): turnings=0 bond=1 -/
abbrev N_need_bond : List Str := ["turnings", "bond"]
def d_need_bond : DS := (dSeq (dDrop (dCall phi_need_turnings (dCons (dVar 0) dNil)))
  (dSeq (dSet 1 (dCall phi_bond_of (dCons (dVar 0) dNil)))
  (dSeq (dIfS (dB (dOp fGt (dVar 1) (dC (.int 50000))))
  dNever
  dNext)
  (dRet (dVar 1)))))
theorem rd_need_bond : ∀ ds Q, phi_need_bond ds Q → d_need_bond { nx := fun _ => Q .none, rt := fun x _ => Q x } (startE N_need_bond.length ds) := by
  rintro ds Q ⟨n, os, st, m, us, sv, rfl, ok, ok2, h⟩
  show d_need_bond _ [C.d (.list [tT n os st, tT m us sv]), .no]
  simp (config := { maxSteps := 4000000 }) only [d_need_bond, dRaise1, dXCall, dXApp, dCaught, dIsE, dXat, dNonE, dRev, dParV, dCallV, dStInt, dStTurn, dStNext, dMixed, dWhileS, dForS, dLcS, dStCells, dStPut, dAppPop, dBegun, dSeq, dCut, dNext, dFrzS, dSet, dSetN, dPar, dParN, dParM, dParNN, dDrop, dRet, dRetN, dIfS, dNever, dBreak, dCont, dAug, dApp, dPutL, dAugL, dIxO, dCBO, dOpO, dOpO2, dTupO, dWhile, dgName, dgNil, dgCons, dgTup, dAsg, dSeqI, dScrI, dRng1, dRng2, dRngN, dZip, dEnum, dFor, dLc, dLc2, dYes, dFrz, dVar, dC, dOp, dOpN, dUn, dChain, dNil, dCons, dTup, dCB, dCBN, dCall, dB, dAnd, dOr, dNot, dAndV, dOrV, dNotV, dIf, dNone, dSome, dSl, dIsi, dIsi2, dListR1, dListR2, dLenScr, dCallS, fLt, fLe, fGt, fGe, fSub, fFdiv, fMod, fPow, fIMul, fInt, fInt0, fCmp, fEq, fAdd, fMul, fRepN, fCatN, fNeg, fIs, fIn, flatD, fIx, fSl, fLen, fAbs, fIntOf, fTwo, fTupOf, fListOf, fIpAdd, DL.seen, ty_int_non, ty_int_bool, ty_int_int, ty_int_str, ty_int_list, ty_int_tuple, ty_bool_non, ty_bool_bool, ty_bool_int, ty_bool_str, ty_bool_list, ty_bool_tuple, ty_str_non, ty_str_bool, ty_str_int, ty_str_str, ty_str_list, ty_str_tuple, ty_list_non, ty_list_bool, ty_list_int, ty_list_str, ty_list_list, ty_list_tuple, ty_tuple_non, ty_tuple_bool, ty_tuple_int, ty_tuple_str, ty_tuple_list, ty_tuple_tuple, ty_dict_non, ty_dict_bool, ty_dict_int, ty_dict_str, ty_dict_list, ty_dict_tuple, Bool.not_false, Bool.not_true, List.getElem?_cons_zero, List.getElem?_cons_succ, List.set_cons_zero, List.set_cons_succ, br_t, br_f, wipeE, ↓reduceIte]
  refine ⟨_, _, _, _, _, _, rfl, ok, ok2, ?_⟩
  refine ⟨_, _, _, _, _, _, rfl, ok, ok2, ?_⟩
  have g1 : (Int.gcd n m : Int) ≤ 240 := Int.le_trans (Int.gcd_le_left _ (by have := ok.n1; omega)) ok.n2
  simp (config := { maxSteps := 4000000 }) only [dRaise1, dXCall, dXApp, dCaught, dIsE, dXat, dNonE, dRev, dParV, dCallV, dStInt, dStTurn, dStNext, dMixed, dWhileS, dForS, dLcS, dStCells, dStPut, dAppPop, dBegun, dSeq, dCut, dNext, dFrzS, dSet, dSetN, dPar, dParN, dParM, dParNN, dDrop, dRet, dRetN, dIfS, dNever, dBreak, dCont, dAug, dApp, dPutL, dAugL, dIxO, dCBO, dOpO, dOpO2, dTupO, dWhile, dgName, dgNil, dgCons, dgTup, dAsg, dSeqI, dScrI, dRng1, dRng2, dRngN, dZip, dEnum, dFor, dLc, dLc2, dYes, dFrz, dVar, dC, dOp, dOpN, dUn, dChain, dNil, dCons, dTup, dCB, dCBN, dCall, dB, dAnd, dOr, dNot, dAndV, dOrV, dNotV, dIf, dNone, dSome, dSl, dIsi, dIsi2, dListR1, dListR2, dLenScr, dCallS, fLt, fLe, fGt, fGe, fSub, fFdiv, fMod, fPow, fIMul, fInt, fInt0, fCmp, fEq, fAdd, fMul, fRepN, fCatN, fNeg, fIs, fIn, flatD, fIx, fSl, fLen, fAbs, fIntOf, fTwo, fTupOf, fListOf, fIpAdd, DL.seen, ty_int_non, ty_int_bool, ty_int_int, ty_int_str, ty_int_list, ty_int_tuple, ty_bool_non, ty_bool_bool, ty_bool_int, ty_bool_str, ty_bool_list, ty_bool_tuple, ty_str_non, ty_str_bool, ty_str_int, ty_str_str, ty_str_list, ty_str_tuple, ty_list_non, ty_list_bool, ty_list_int, ty_list_str, ty_list_list, ty_list_tuple, ty_tuple_non, ty_tuple_bool, ty_tuple_int, ty_tuple_str, ty_tuple_list, ty_tuple_tuple, ty_dict_non, ty_dict_bool, ty_dict_int, ty_dict_str, ty_dict_list, ty_dict_tuple, Bool.not_false, Bool.not_true, List.getElem?_cons_zero, List.getElem?_cons_succ, List.set_cons_zero, List.set_cons_succ, br_t, br_f, wipeE, ↓reduceIte]
  rw [decide_eq_false (by omega)]
  simp (config := { maxSteps := 4000000 }) only [dRaise1, dXCall, dXApp, dCaught, dIsE, dXat, dNonE, dRev, dParV, dCallV, dStInt, dStTurn, dStNext, dMixed, dWhileS, dForS, dLcS, dStCells, dStPut, dAppPop, dBegun, dSeq, dCut, dNext, dFrzS, dSet, dSetN, dPar, dParN, dParM, dParNN, dDrop, dRet, dRetN, dIfS, dNever, dBreak, dCont, dAug, dApp, dPutL, dAugL, dIxO, dCBO, dOpO, dOpO2, dTupO, dWhile, dgName, dgNil, dgCons, dgTup, dAsg, dSeqI, dScrI, dRng1, dRng2, dRngN, dZip, dEnum, dFor, dLc, dLc2, dYes, dFrz, dVar, dC, dOp, dOpN, dUn, dChain, dNil, dCons, dTup, dCB, dCBN, dCall, dB, dAnd, dOr, dNot, dAndV, dOrV, dNotV, dIf, dNone, dSome, dSl, dIsi, dIsi2, dListR1, dListR2, dLenScr, dCallS, fLt, fLe, fGt, fGe, fSub, fFdiv, fMod, fPow, fIMul, fInt, fInt0, fCmp, fEq, fAdd, fMul, fRepN, fCatN, fNeg, fIs, fIn, flatD, fIx, fSl, fLen, fAbs, fIntOf, fTwo, fTupOf, fListOf, fIpAdd, DL.seen, ty_int_non, ty_int_bool, ty_int_int, ty_int_str, ty_int_list, ty_int_tuple, ty_bool_non, ty_bool_bool, ty_bool_int, ty_bool_str, ty_bool_list, ty_bool_tuple, ty_str_non, ty_str_bool, ty_str_int, ty_str_str, ty_str_list, ty_str_tuple, ty_list_non, ty_list_bool, ty_list_int, ty_list_str, ty_list_list, ty_list_tuple, ty_tuple_non, ty_tuple_bool, ty_tuple_int, ty_tuple_str, ty_tuple_list, ty_tuple_tuple, ty_dict_non, ty_dict_bool, ty_dict_int, ty_dict_str, ty_dict_list, ty_dict_tuple, Bool.not_false, Bool.not_true, List.getElem?_cons_zero, List.getElem?_cons_succ, List.set_cons_zero, List.set_cons_succ, br_t, br_f, wipeE, ↓reduceIte]
  exact h
abbrev sc_need_bond : Scope := defScope s_need_bond
theorem scp_need_bond : FnScope N_need_bond ["turnings"] sc_need_bond := ⟨rfl, rfl, rfl, by decide +kernel, rfl, by decide +kernel, by decide +kernel⟩
theorem ok_need_bond {P : Program} {w : World} {K : PySem.W.Frag} {mg : Str → Option Value} {base : Heap} (h : Hd K mg) (c_need_turnings : Fn P w K mg base 4 "need_turnings" (spD K phi_need_turnings)) (c_bond_of : Fn P w K mg base 3 "bond_of" (spD K phi_bond_of)) : Fn P w K mg base 5 "need_bond" (spD K phi_need_bond) := by
  obtain ⟨f, fd, F, hm⟩ := h.f_need_bond
  have sc := scp_need_bond
  exact Fn.mk' (fn_pure F scp_need_bond len_need_bond fun cdv A outer s H E hr => ⟨_, d_need_bond, (q_cons (s_drop (pd_call c_need_turnings hr (pa_c (pd_v 0) pa_n)))
  (q_cons (s_set 1 sc.nd (pd_call c_bond_of hr (pa_c (pd_v 0) pa_n)))
  (q_cons (s_if (pt_cmp c_gt (pd_v 1) (pd_g h.g_MOST_BOND))
  (q_one s_never)
  q_nil)
  (q_one (s_ret (pd_v 1)))))), rd_need_bond⟩) hm F.kp (F.bindsN fun _ _ _ _ _ _ us hl => match us, hl with | [_], _ => rfl)
end B12


namespace B12
open PySem PySem.Spec PyProof.Rows L2 DL
/-! by classes -/
def phi_by_class : Ph := fun ds P => ∃ (n : Int) (rs : List Int), ds = [.int n, .int n, .list (iL rs)] ∧ 1 ≤ n ∧ n ≤ 240 ∧ (∀ r ∈ rs, 0 ≤ r ∧ r < n) ∧ P (.list (iL (hist n.toNat rs)))
theorem len_by_class : ∀ ds Q, phi_by_class ds Q → ds.length = 3 := by rintro ds Q ⟨n, rs, rfl, _⟩; rfl
/-! by_class(length, bond, rests): length=0 bond=1 rests=2 step=3 found=4 rest=5 remainder=6 -/
abbrev N_by_class : List Str := ["length", "bond", "rests", "step", "found", "rest", "remainder"]
def d_by_class : DS := (dSeq (dSet 3 (dCall phi_shared (dCons (dVar 0) (dCons (dVar 1) dNil))))
  (dSeq (dSetN 4 (dOpN fRepN (dFrz (dCons (dC (.int 0)) dNil)) (dVar 3)))
  (dSeq (dFor (dSeqI (dVar 2)) (dgName 5)
  (dAugL 4 (dOp fMod (dVar 5) (dVar 3)) fIpAdd (dC (.int 1))))
  (dRet (dFrz (dLc (dRng1 (dCons (dVar 1) dNil)) (dgName 6) dYes (dIxO 4 (dOp fMod (dVar 6) (dVar 3))) [6]))))))
theorem rd_by_class : ∀ ds Q, phi_by_class ds Q → d_by_class { nx := fun _ => Q .none, rt := fun x _ => Q x } (startE N_by_class.length ds) := by
  rintro ds Q ⟨n, rs, rfl, n1, n2, hr, h⟩
  show d_by_class _ [C.d (.int n), C.d (.int n), C.d (.list (iL rs)), .no, .no, .no, .no]
  simp (config := { maxSteps := 4000000 }) only [d_by_class, dRaise1, dXCall, dXApp, dCaught, dIsE, dXat, dNonE, dRev, dParV, dCallV, dStInt, dStTurn, dStNext, dMixed, dWhileS, dForS, dLcS, dStCells, dStPut, dAppPop, dBegun, dSeq, dCut, dNext, dFrzS, dSet, dSetN, dPar, dParN, dParM, dParNN, dDrop, dRet, dRetN, dIfS, dNever, dBreak, dCont, dAug, dApp, dPutL, dAugL, dIxO, dCBO, dOpO, dOpO2, dTupO, dWhile, dgName, dgNil, dgCons, dgTup, dAsg, dSeqI, dScrI, dRng1, dRng2, dRngN, dZip, dEnum, dFor, dLc, dLc2, dYes, dFrz, dVar, dC, dOp, dOpN, dUn, dChain, dNil, dCons, dTup, dCB, dCBN, dCall, dB, dAnd, dOr, dNot, dAndV, dOrV, dNotV, dIf, dNone, dSome, dSl, dIsi, dIsi2, dListR1, dListR2, dLenScr, dCallS, fLt, fLe, fGt, fGe, fSub, fFdiv, fMod, fPow, fIMul, fInt, fInt0, fCmp, fEq, fAdd, fMul, fRepN, fCatN, fNeg, fIs, fIn, flatD, fIx, fSl, fLen, fAbs, fIntOf, fTwo, fTupOf, fListOf, fIpAdd, DL.seen, ty_int_non, ty_int_bool, ty_int_int, ty_int_str, ty_int_list, ty_int_tuple, ty_bool_non, ty_bool_bool, ty_bool_int, ty_bool_str, ty_bool_list, ty_bool_tuple, ty_str_non, ty_str_bool, ty_str_int, ty_str_str, ty_str_list, ty_str_tuple, ty_list_non, ty_list_bool, ty_list_int, ty_list_str, ty_list_list, ty_list_tuple, ty_tuple_non, ty_tuple_bool, ty_tuple_int, ty_tuple_str, ty_tuple_list, ty_tuple_tuple, ty_dict_non, ty_dict_bool, ty_dict_int, ty_dict_str, ty_dict_list, ty_dict_tuple, Bool.not_false, Bool.not_true, List.getElem?_cons_zero, List.getElem?_cons_succ, List.set_cons_zero, List.set_cons_succ, br_t, br_f, wipeE, ↓reduceIte]
  refine ⟨n, n, rfl, by omega, by omega, ?_⟩
  have eg : ((Int.gcd n n : Nat) : Int) = n := by rw [Int.gcd_self]; omega
  rw [eg]
  simp (config := { maxSteps := 4000000 }) only [rep0, dRaise1, dXCall, dXApp, dCaught, dIsE, dXat, dNonE, dRev, dParV, dCallV, dStInt, dStTurn, dStNext, dMixed, dWhileS, dForS, dLcS, dStCells, dStPut, dAppPop, dBegun, dSeq, dCut, dNext, dFrzS, dSet, dSetN, dPar, dParN, dParM, dParNN, dDrop, dRet, dRetN, dIfS, dNever, dBreak, dCont, dAug, dApp, dPutL, dAugL, dIxO, dCBO, dOpO, dOpO2, dTupO, dWhile, dgName, dgNil, dgCons, dgTup, dAsg, dSeqI, dScrI, dRng1, dRng2, dRngN, dZip, dEnum, dFor, dLc, dLc2, dYes, dFrz, dVar, dC, dOp, dOpN, dUn, dChain, dNil, dCons, dTup, dCB, dCBN, dCall, dB, dAnd, dOr, dNot, dAndV, dOrV, dNotV, dIf, dNone, dSome, dSl, dIsi, dIsi2, dListR1, dListR2, dLenScr, dCallS, fLt, fLe, fGt, fGe, fSub, fFdiv, fMod, fPow, fIMul, fInt, fInt0, fCmp, fEq, fAdd, fMul, fRepN, fCatN, fNeg, fIs, fIn, flatD, fIx, fSl, fLen, fAbs, fIntOf, fTwo, fTupOf, fListOf, fIpAdd, DL.seen, ty_int_non, ty_int_bool, ty_int_int, ty_int_str, ty_int_list, ty_int_tuple, ty_bool_non, ty_bool_bool, ty_bool_int, ty_bool_str, ty_bool_list, ty_bool_tuple, ty_str_non, ty_str_bool, ty_str_int, ty_str_str, ty_str_list, ty_str_tuple, ty_list_non, ty_list_bool, ty_list_int, ty_list_str, ty_list_list, ty_list_tuple, ty_tuple_non, ty_tuple_bool, ty_tuple_int, ty_tuple_str, ty_tuple_list, ty_tuple_tuple, ty_dict_non, ty_dict_bool, ty_dict_int, ty_dict_str, ty_dict_list, ty_dict_tuple, Bool.not_false, Bool.not_true, List.getElem?_cons_zero, List.getElem?_cons_succ, List.set_cons_zero, List.set_cons_succ, br_t, br_f, wipeE, ↓reduceIte]
  refine ⟨⟨by omega, by omega, ?_⟩, ?_⟩
  · rw [sizeLine_eq]; simp; omega
  rw [← hist_nil]
  refine ⟨fun i E => ∃ c5, E = [C.d (.int n), C.d (.int n), C.d (.list (iL rs)), C.d (.int n), C.l (iL (hist n.toNat (rs.take i))), c5, .no], ⟨_, rfl⟩, ?_, ?_⟩
  · rintro i x E hx ⟨c5, rfl⟩
    obtain ⟨a, ha, rfl⟩ := iL_at hx
    obtain ⟨h0, h1⟩ := hr a (List.mem_of_getElem? ha)
    simp (config := { maxSteps := 4000000 }) only [dRaise1, dXCall, dXApp, dCaught, dIsE, dXat, dNonE, dRev, dParV, dCallV, dStInt, dStTurn, dStNext, dMixed, dWhileS, dForS, dLcS, dStCells, dStPut, dAppPop, dBegun, dSeq, dCut, dNext, dFrzS, dSet, dSetN, dPar, dParN, dParM, dParNN, dDrop, dRet, dRetN, dIfS, dNever, dBreak, dCont, dAug, dApp, dPutL, dAugL, dIxO, dCBO, dOpO, dOpO2, dTupO, dWhile, dgName, dgNil, dgCons, dgTup, dAsg, dSeqI, dScrI, dRng1, dRng2, dRngN, dZip, dEnum, dFor, dLc, dLc2, dYes, dFrz, dVar, dC, dOp, dOpN, dUn, dChain, dNil, dCons, dTup, dCB, dCBN, dCall, dB, dAnd, dOr, dNot, dAndV, dOrV, dNotV, dIf, dNone, dSome, dSl, dIsi, dIsi2, dListR1, dListR2, dLenScr, dCallS, fLt, fLe, fGt, fGe, fSub, fFdiv, fMod, fPow, fIMul, fInt, fInt0, fCmp, fEq, fAdd, fMul, fRepN, fCatN, fNeg, fIs, fIn, flatD, fIx, fSl, fLen, fAbs, fIntOf, fTwo, fTupOf, fListOf, fIpAdd, DL.seen, ty_int_non, ty_int_bool, ty_int_int, ty_int_str, ty_int_list, ty_int_tuple, ty_bool_non, ty_bool_bool, ty_bool_int, ty_bool_str, ty_bool_list, ty_bool_tuple, ty_str_non, ty_str_bool, ty_str_int, ty_str_str, ty_str_list, ty_str_tuple, ty_list_non, ty_list_bool, ty_list_int, ty_list_str, ty_list_list, ty_list_tuple, ty_tuple_non, ty_tuple_bool, ty_tuple_int, ty_tuple_str, ty_tuple_list, ty_tuple_tuple, ty_dict_non, ty_dict_bool, ty_dict_int, ty_dict_str, ty_dict_list, ty_dict_tuple, Bool.not_false, Bool.not_true, List.getElem?_cons_zero, List.getElem?_cons_succ, List.set_cons_zero, List.set_cons_succ, br_t, br_f, wipeE, ↓reduceIte]
    refine ⟨by omega, ?_⟩
    rw [Int.emod_eq_of_lt h0 h1]
    refine ⟨a.toNat, _, ixN_in h0 (by rw [iL_len, hist_len]; omega), by rw [List.getElem?_map, hist_get (by omega)]; rfl, ?_⟩
    simp (config := { maxSteps := 4000000 }) only [dRaise1, dXCall, dXApp, dCaught, dIsE, dXat, dNonE, dRev, dParV, dCallV, dStInt, dStTurn, dStNext, dMixed, dWhileS, dForS, dLcS, dStCells, dStPut, dAppPop, dBegun, dSeq, dCut, dNext, dFrzS, dSet, dSetN, dPar, dParN, dParM, dParNN, dDrop, dRet, dRetN, dIfS, dNever, dBreak, dCont, dAug, dApp, dPutL, dAugL, dIxO, dCBO, dOpO, dOpO2, dTupO, dWhile, dgName, dgNil, dgCons, dgTup, dAsg, dSeqI, dScrI, dRng1, dRng2, dRngN, dZip, dEnum, dFor, dLc, dLc2, dYes, dFrz, dVar, dC, dOp, dOpN, dUn, dChain, dNil, dCons, dTup, dCB, dCBN, dCall, dB, dAnd, dOr, dNot, dAndV, dOrV, dNotV, dIf, dNone, dSome, dSl, dIsi, dIsi2, dListR1, dListR2, dLenScr, dCallS, fLt, fLe, fGt, fGe, fSub, fFdiv, fMod, fPow, fIMul, fInt, fInt0, fCmp, fEq, fAdd, fMul, fRepN, fCatN, fNeg, fIs, fIn, flatD, fIx, fSl, fLen, fAbs, fIntOf, fTwo, fTupOf, fListOf, fIpAdd, DL.seen, ty_int_non, ty_int_bool, ty_int_int, ty_int_str, ty_int_list, ty_int_tuple, ty_bool_non, ty_bool_bool, ty_bool_int, ty_bool_str, ty_bool_list, ty_bool_tuple, ty_str_non, ty_str_bool, ty_str_int, ty_str_str, ty_str_list, ty_str_tuple, ty_list_non, ty_list_bool, ty_list_int, ty_list_str, ty_list_list, ty_list_tuple, ty_tuple_non, ty_tuple_bool, ty_tuple_int, ty_tuple_str, ty_tuple_list, ty_tuple_tuple, ty_dict_non, ty_dict_bool, ty_dict_int, ty_dict_str, ty_dict_list, ty_dict_tuple, Bool.not_false, Bool.not_true, List.getElem?_cons_zero, List.getElem?_cons_succ, List.set_cons_zero, List.set_cons_succ, br_t, br_f, wipeE, ↓reduceIte]
    refine ⟨C.d (.int a), ?_⟩
    rw [iL_set, hist_push h0 (by omega), ← take_push ha]
    rw [Int.toNat_of_nonneg h0]
  · rintro E ⟨c5, rfl⟩
    simp (config := { maxSteps := 4000000 }) only [dRaise1, dXCall, dXApp, dCaught, dIsE, dXat, dNonE, dRev, dParV, dCallV, dStInt, dStTurn, dStNext, dMixed, dWhileS, dForS, dLcS, dStCells, dStPut, dAppPop, dBegun, dSeq, dCut, dNext, dFrzS, dSet, dSetN, dPar, dParN, dParM, dParNN, dDrop, dRet, dRetN, dIfS, dNever, dBreak, dCont, dAug, dApp, dPutL, dAugL, dIxO, dCBO, dOpO, dOpO2, dTupO, dWhile, dgName, dgNil, dgCons, dgTup, dAsg, dSeqI, dScrI, dRng1, dRng2, dRngN, dZip, dEnum, dFor, dLc, dLc2, dYes, dFrz, dVar, dC, dOp, dOpN, dUn, dChain, dNil, dCons, dTup, dCB, dCBN, dCall, dB, dAnd, dOr, dNot, dAndV, dOrV, dNotV, dIf, dNone, dSome, dSl, dIsi, dIsi2, dListR1, dListR2, dLenScr, dCallS, fLt, fLe, fGt, fGe, fSub, fFdiv, fMod, fPow, fIMul, fInt, fInt0, fCmp, fEq, fAdd, fMul, fRepN, fCatN, fNeg, fIs, fIn, flatD, fIx, fSl, fLen, fAbs, fIntOf, fTwo, fTupOf, fListOf, fIpAdd, DL.seen, ty_int_non, ty_int_bool, ty_int_int, ty_int_str, ty_int_list, ty_int_tuple, ty_bool_non, ty_bool_bool, ty_bool_int, ty_bool_str, ty_bool_list, ty_bool_tuple, ty_str_non, ty_str_bool, ty_str_int, ty_str_str, ty_str_list, ty_str_tuple, ty_list_non, ty_list_bool, ty_list_int, ty_list_str, ty_list_list, ty_list_tuple, ty_tuple_non, ty_tuple_bool, ty_tuple_int, ty_tuple_str, ty_tuple_list, ty_tuple_tuple, ty_dict_non, ty_dict_bool, ty_dict_int, ty_dict_str, ty_dict_list, ty_dict_tuple, Bool.not_false, Bool.not_true, List.getElem?_cons_zero, List.getElem?_cons_succ, List.set_cons_zero, List.set_cons_succ, br_t, br_f, wipeE, ↓reduceIte]
    rw [iL_len, List.take_length]
    refine ⟨rfl, ⟨by omega, by omega⟩, fun i acc => acc = (iL (hist n.toNat rs)).take i, take_nil0, by rw [rgD_len]; exact line_big (by omega), fun i x acc hx hw => ?_, fun acc hw => ?_⟩
    · obtain ⟨hi, rfl⟩ := rgD_at hx
      simp (config := { maxSteps := 4000000 }) only [dRaise1, dXCall, dXApp, dCaught, dIsE, dXat, dNonE, dRev, dParV, dCallV, dStInt, dStTurn, dStNext, dMixed, dWhileS, dForS, dLcS, dStCells, dStPut, dAppPop, dBegun, dSeq, dCut, dNext, dFrzS, dSet, dSetN, dPar, dParN, dParM, dParNN, dDrop, dRet, dRetN, dIfS, dNever, dBreak, dCont, dAug, dApp, dPutL, dAugL, dIxO, dCBO, dOpO, dOpO2, dTupO, dWhile, dgName, dgNil, dgCons, dgTup, dAsg, dSeqI, dScrI, dRng1, dRng2, dRngN, dZip, dEnum, dFor, dLc, dLc2, dYes, dFrz, dVar, dC, dOp, dOpN, dUn, dChain, dNil, dCons, dTup, dCB, dCBN, dCall, dB, dAnd, dOr, dNot, dAndV, dOrV, dNotV, dIf, dNone, dSome, dSl, dIsi, dIsi2, dListR1, dListR2, dLenScr, dCallS, fLt, fLe, fGt, fGe, fSub, fFdiv, fMod, fPow, fIMul, fInt, fInt0, fCmp, fEq, fAdd, fMul, fRepN, fCatN, fNeg, fIs, fIn, flatD, fIx, fSl, fLen, fAbs, fIntOf, fTwo, fTupOf, fListOf, fIpAdd, DL.seen, ty_int_non, ty_int_bool, ty_int_int, ty_int_str, ty_int_list, ty_int_tuple, ty_bool_non, ty_bool_bool, ty_bool_int, ty_bool_str, ty_bool_list, ty_bool_tuple, ty_str_non, ty_str_bool, ty_str_int, ty_str_str, ty_str_list, ty_str_tuple, ty_list_non, ty_list_bool, ty_list_int, ty_list_str, ty_list_list, ty_list_tuple, ty_tuple_non, ty_tuple_bool, ty_tuple_int, ty_tuple_str, ty_tuple_list, ty_tuple_tuple, ty_dict_non, ty_dict_bool, ty_dict_int, ty_dict_str, ty_dict_list, ty_dict_tuple, Bool.not_false, Bool.not_true, List.getElem?_cons_zero, List.getElem?_cons_succ, List.set_cons_zero, List.set_cons_succ, br_t, br_f, wipeE, ↓reduceIte]
      refine ⟨by omega, ?_⟩
      rw [Int.zero_add, Int.emod_eq_of_lt (by omega) (by omega)]
      refine ⟨_, atI_int (by omega) (hist_get (k := i) (by omega)), ?_⟩
      rw [hw]
      refine take_push ?_
      rw [List.getElem?_map, hist_get (by omega)]
      rfl
    · rw [hw, take_all (by rw [rgD_len, iL_len, hist_len])]
      exact h
abbrev sc_by_class : Scope := defScope s_by_class
theorem scp_by_class : FnScope N_by_class ["length", "bond", "rests"] sc_by_class := ⟨rfl, rfl, rfl, by decide +kernel, rfl, by decide +kernel, by decide +kernel⟩
theorem ok_by_class {P : Program} {w : World} {K : PySem.W.Frag} {mg : Str → Option Value} {base : Heap} (h : Hd K mg) (c_shared : Fn P w K mg base 1 "shared" (spD K phi_shared)) : Fn P w K mg base 2 "by_class" (spD K phi_by_class) := by
  obtain ⟨f, fd, F, hm⟩ := h.f_by_class
  have sc := scp_by_class
  exact Fn.mk' (fn_pure F scp_by_class len_by_class fun cdv A outer s H E hr => ⟨_, d_by_class, (q_cons (s_set 3 sc.nd (pd_call c_shared hr (pa_c (pd_v 0) (pa_c (pd_v 1) pa_n))))
  (q_cons (s_setN 4 sc.nd (pn_rep (pd_f (pn_lst (pa_c pd_i pa_n))) (pd_v 3)))
  (q_cons (s_for (i_seq (pd_v 2)) (g_name 5 sc.nd)
  (q_one (s_augL 4 ip_addA vs_ipAdd (pd_mod (pd_v 5) (pd_v 3)) pd_i)))
  (q_one (s_ret (pd_f (n_of (l_lc [("remainder", 6)] sc.nd (i_r1 h.b_range (pa_c (pd_v 1) pa_n)) (blkOk_by (own := [("remainder", 6)]) (N := N_by_class) (sc := sc_by_class) (by decide +kernel)) (fun _ _ _ _ _ => (g_name 6 sc.nd)) (fun _ _ _ _ _ => t_yes) (fun _ _ _ _ _ => (pd_ixO 4 (pd_mod (pd_v 6) (pd_v 3)))))))))))), rd_by_class⟩) hm F.kp (F.bindsN fun _ _ _ _ _ _ us hl => match us, hl with | [_, _, _], _ => rfl)
def clsL (n : Int) (os : List Int) (st : Int) : List Int := hist n.toNat (basR n os st)
theorem bas_in {n : Int} {os : List Int} {st : Int} (h : 1 ≤ n) : ∀ r ∈ basR n os st, 0 ≤ r ∧ r < n := by
  intro r hr
  obtain ⟨o, _, rfl⟩ := List.mem_map.mp hr
  exact ⟨Int.emod_nonneg _ (by omega), Int.emod_lt_of_pos _ (by omega)⟩
def phi_parted : Ph := fun ds P => ∃ n os st us sv, ds = [.list [tT n os st, tT n us sv], .int n] ∧ OkT n os st ∧ OkT n us sv ∧ P (.list [.tuple [.list (iL (clsL n os st)), .int 1], .tuple [.list (iL (clsL n us sv)), .int 1]])
theorem len_parted : ∀ ds Q, phi_parted ds Q → ds.length = 2 := by rintro ds Q ⟨n, os, st, us, sv, rfl, _⟩; rfl
/-! parted(turnings, bond): turnings=0 bond=1 found=2 turning=3 each=4 -/
abbrev N_parted : List Str := ["turnings", "bond", "found", "turning", "each"]
def d_parted : DS := (dSeq (dSetN 2 dNil)
  (dSeq (dFor (dSeqI (dVar 0)) (dgName 3)
  (dSeq (dSet 4 (dOp fFdiv (dOp fIx (dVar 3) (dC (.int 0))) (dCall phi_shared (dCons (dOp fIx (dVar 3) (dC (.int 0))) (dCons (dVar 1) dNil)))))
  (dApp 2 (dTup (dCons (dCall phi_by_class (dCons (dOp fIx (dVar 3) (dC (.int 0))) (dCons (dVar 1) (dCons (dCall phi_rests_of (dCons (dVar 3) dNil)) dNil)))) (dCons (dVar 4) dNil))))))
  (dFrzS 2 (dRet (dVar 2)))))
theorem rd_parted : ∀ ds Q, phi_parted ds Q → d_parted { nx := fun _ => Q .none, rt := fun x _ => Q x } (startE N_parted.length ds) := by
  rintro ds Q ⟨n, os, st, us, sv, rfl, ok, ok2, h⟩
  show d_parted _ [C.d (.list [tT n os st, tT n us sv]), C.d (.int n), .no, .no, .no]
  simp (config := { maxSteps := 4000000 }) only [d_parted, dRaise1, dXCall, dXApp, dCaught, dIsE, dXat, dNonE, dRev, dParV, dCallV, dStInt, dStTurn, dStNext, dMixed, dWhileS, dForS, dLcS, dStCells, dStPut, dAppPop, dBegun, dSeq, dCut, dNext, dFrzS, dSet, dSetN, dPar, dParN, dParM, dParNN, dDrop, dRet, dRetN, dIfS, dNever, dBreak, dCont, dAug, dApp, dPutL, dAugL, dIxO, dCBO, dOpO, dOpO2, dTupO, dWhile, dgName, dgNil, dgCons, dgTup, dAsg, dSeqI, dScrI, dRng1, dRng2, dRngN, dZip, dEnum, dFor, dLc, dLc2, dYes, dFrz, dVar, dC, dOp, dOpN, dUn, dChain, dNil, dCons, dTup, dCB, dCBN, dCall, dB, dAnd, dOr, dNot, dAndV, dOrV, dNotV, dIf, dNone, dSome, dSl, dIsi, dIsi2, dListR1, dListR2, dLenScr, dCallS, fLt, fLe, fGt, fGe, fSub, fFdiv, fMod, fPow, fIMul, fInt, fInt0, fCmp, fEq, fAdd, fMul, fRepN, fCatN, fNeg, fIs, fIn, flatD, fIx, fSl, fLen, fAbs, fIntOf, fTwo, fTupOf, fListOf, fIpAdd, DL.seen, ty_int_non, ty_int_bool, ty_int_int, ty_int_str, ty_int_list, ty_int_tuple, ty_bool_non, ty_bool_bool, ty_bool_int, ty_bool_str, ty_bool_list, ty_bool_tuple, ty_str_non, ty_str_bool, ty_str_int, ty_str_str, ty_str_list, ty_str_tuple, ty_list_non, ty_list_bool, ty_list_int, ty_list_str, ty_list_list, ty_list_tuple, ty_tuple_non, ty_tuple_bool, ty_tuple_int, ty_tuple_str, ty_tuple_list, ty_tuple_tuple, ty_dict_non, ty_dict_bool, ty_dict_int, ty_dict_str, ty_dict_list, ty_dict_tuple, Bool.not_false, Bool.not_true, List.getElem?_cons_zero, List.getElem?_cons_succ, List.set_cons_zero, List.set_cons_succ, br_t, br_f, wipeE, ↓reduceIte]
  have n1 := ok.n1
  have n2 := ok.n2
  have eg : ((Int.gcd n n : Nat) : Int) = n := by rw [Int.gcd_self]; omega
  refine ⟨fun i E => ∃ c3 c4, E = [C.d (.list [tT n os st, tT n us sv]), C.d (.int n), C.l (([.tuple [.list (iL (clsL n os st)), .int 1], .tuple [.list (iL (clsL n us sv)), .int 1]] : List PyData).take i), c3, c4], ⟨_, _, rfl⟩, ?_, ?_⟩
  · rintro i x E hx ⟨c3, c4, rfl⟩
    simp (config := { maxSteps := 4000000 }) only [dRaise1, dXCall, dXApp, dCaught, dIsE, dXat, dNonE, dRev, dParV, dCallV, dStInt, dStTurn, dStNext, dMixed, dWhileS, dForS, dLcS, dStCells, dStPut, dAppPop, dBegun, dSeq, dCut, dNext, dFrzS, dSet, dSetN, dPar, dParN, dParM, dParNN, dDrop, dRet, dRetN, dIfS, dNever, dBreak, dCont, dAug, dApp, dPutL, dAugL, dIxO, dCBO, dOpO, dOpO2, dTupO, dWhile, dgName, dgNil, dgCons, dgTup, dAsg, dSeqI, dScrI, dRng1, dRng2, dRngN, dZip, dEnum, dFor, dLc, dLc2, dYes, dFrz, dVar, dC, dOp, dOpN, dUn, dChain, dNil, dCons, dTup, dCB, dCBN, dCall, dB, dAnd, dOr, dNot, dAndV, dOrV, dNotV, dIf, dNone, dSome, dSl, dIsi, dIsi2, dListR1, dListR2, dLenScr, dCallS, fLt, fLe, fGt, fGe, fSub, fFdiv, fMod, fPow, fIMul, fInt, fInt0, fCmp, fEq, fAdd, fMul, fRepN, fCatN, fNeg, fIs, fIn, flatD, fIx, fSl, fLen, fAbs, fIntOf, fTwo, fTupOf, fListOf, fIpAdd, DL.seen, ty_int_non, ty_int_bool, ty_int_int, ty_int_str, ty_int_list, ty_int_tuple, ty_bool_non, ty_bool_bool, ty_bool_int, ty_bool_str, ty_bool_list, ty_bool_tuple, ty_str_non, ty_str_bool, ty_str_int, ty_str_str, ty_str_list, ty_str_tuple, ty_list_non, ty_list_bool, ty_list_int, ty_list_str, ty_list_list, ty_list_tuple, ty_tuple_non, ty_tuple_bool, ty_tuple_int, ty_tuple_str, ty_tuple_list, ty_tuple_tuple, ty_dict_non, ty_dict_bool, ty_dict_int, ty_dict_str, ty_dict_list, ty_dict_tuple, Bool.not_false, Bool.not_true, List.getElem?_cons_zero, List.getElem?_cons_succ, List.set_cons_zero, List.set_cons_succ, br_t, br_f, wipeE, ↓reduceIte]
    rcases two_at hx with ⟨rfl, rfl⟩ | ⟨rfl, rfl⟩
    · refine ⟨_, atI0, _, atI0, n, n, rfl, by omega, by omega, ?_⟩
      rw [eg]
      simp (config := { maxSteps := 4000000 }) only [dRaise1, dXCall, dXApp, dCaught, dIsE, dXat, dNonE, dRev, dParV, dCallV, dStInt, dStTurn, dStNext, dMixed, dWhileS, dForS, dLcS, dStCells, dStPut, dAppPop, dBegun, dSeq, dCut, dNext, dFrzS, dSet, dSetN, dPar, dParN, dParM, dParNN, dDrop, dRet, dRetN, dIfS, dNever, dBreak, dCont, dAug, dApp, dPutL, dAugL, dIxO, dCBO, dOpO, dOpO2, dTupO, dWhile, dgName, dgNil, dgCons, dgTup, dAsg, dSeqI, dScrI, dRng1, dRng2, dRngN, dZip, dEnum, dFor, dLc, dLc2, dYes, dFrz, dVar, dC, dOp, dOpN, dUn, dChain, dNil, dCons, dTup, dCB, dCBN, dCall, dB, dAnd, dOr, dNot, dAndV, dOrV, dNotV, dIf, dNone, dSome, dSl, dIsi, dIsi2, dListR1, dListR2, dLenScr, dCallS, fLt, fLe, fGt, fGe, fSub, fFdiv, fMod, fPow, fIMul, fInt, fInt0, fCmp, fEq, fAdd, fMul, fRepN, fCatN, fNeg, fIs, fIn, flatD, fIx, fSl, fLen, fAbs, fIntOf, fTwo, fTupOf, fListOf, fIpAdd, DL.seen, ty_int_non, ty_int_bool, ty_int_int, ty_int_str, ty_int_list, ty_int_tuple, ty_bool_non, ty_bool_bool, ty_bool_int, ty_bool_str, ty_bool_list, ty_bool_tuple, ty_str_non, ty_str_bool, ty_str_int, ty_str_str, ty_str_list, ty_str_tuple, ty_list_non, ty_list_bool, ty_list_int, ty_list_str, ty_list_list, ty_list_tuple, ty_tuple_non, ty_tuple_bool, ty_tuple_int, ty_tuple_str, ty_tuple_list, ty_tuple_tuple, ty_dict_non, ty_dict_bool, ty_dict_int, ty_dict_str, ty_dict_list, ty_dict_tuple, Bool.not_false, Bool.not_true, List.getElem?_cons_zero, List.getElem?_cons_succ, List.set_cons_zero, List.set_cons_succ, br_t, br_f, wipeE, ↓reduceIte]
      refine ⟨log_small (by omega) (by omega), _, atI0, n, os, st, rfl, ok, fun rs hrs => ?_⟩
      refine ⟨n, rs, rfl, n1, n2, fun r hr => bas_in n1 r (hrs.mem_iff.mp hr), ?_⟩
      rw [hist_perm hrs, Int.ediv_self (by omega)]
      exact ⟨line_big (by decide : 0 ≤ 1000), _, _, rfl⟩
    · refine ⟨_, atI0, _, atI0, n, n, rfl, by omega, by omega, ?_⟩
      rw [eg]
      simp (config := { maxSteps := 4000000 }) only [dRaise1, dXCall, dXApp, dCaught, dIsE, dXat, dNonE, dRev, dParV, dCallV, dStInt, dStTurn, dStNext, dMixed, dWhileS, dForS, dLcS, dStCells, dStPut, dAppPop, dBegun, dSeq, dCut, dNext, dFrzS, dSet, dSetN, dPar, dParN, dParM, dParNN, dDrop, dRet, dRetN, dIfS, dNever, dBreak, dCont, dAug, dApp, dPutL, dAugL, dIxO, dCBO, dOpO, dOpO2, dTupO, dWhile, dgName, dgNil, dgCons, dgTup, dAsg, dSeqI, dScrI, dRng1, dRng2, dRngN, dZip, dEnum, dFor, dLc, dLc2, dYes, dFrz, dVar, dC, dOp, dOpN, dUn, dChain, dNil, dCons, dTup, dCB, dCBN, dCall, dB, dAnd, dOr, dNot, dAndV, dOrV, dNotV, dIf, dNone, dSome, dSl, dIsi, dIsi2, dListR1, dListR2, dLenScr, dCallS, fLt, fLe, fGt, fGe, fSub, fFdiv, fMod, fPow, fIMul, fInt, fInt0, fCmp, fEq, fAdd, fMul, fRepN, fCatN, fNeg, fIs, fIn, flatD, fIx, fSl, fLen, fAbs, fIntOf, fTwo, fTupOf, fListOf, fIpAdd, DL.seen, ty_int_non, ty_int_bool, ty_int_int, ty_int_str, ty_int_list, ty_int_tuple, ty_bool_non, ty_bool_bool, ty_bool_int, ty_bool_str, ty_bool_list, ty_bool_tuple, ty_str_non, ty_str_bool, ty_str_int, ty_str_str, ty_str_list, ty_str_tuple, ty_list_non, ty_list_bool, ty_list_int, ty_list_str, ty_list_list, ty_list_tuple, ty_tuple_non, ty_tuple_bool, ty_tuple_int, ty_tuple_str, ty_tuple_list, ty_tuple_tuple, ty_dict_non, ty_dict_bool, ty_dict_int, ty_dict_str, ty_dict_list, ty_dict_tuple, Bool.not_false, Bool.not_true, List.getElem?_cons_zero, List.getElem?_cons_succ, List.set_cons_zero, List.set_cons_succ, br_t, br_f, wipeE, ↓reduceIte]
      refine ⟨log_small (by omega) (by omega), _, atI0, n, us, sv, rfl, ok2, fun rs hrs => ?_⟩
      refine ⟨n, rs, rfl, n1, n2, fun r hr => bas_in n1 r (hrs.mem_iff.mp hr), ?_⟩
      rw [hist_perm hrs, Int.ediv_self (by omega)]
      exact ⟨line_big (by decide : 1 ≤ 1000), _, _, rfl⟩
  · rintro E ⟨c3, c4, rfl⟩
    simp (config := { maxSteps := 4000000 }) only [dRaise1, dXCall, dXApp, dCaught, dIsE, dXat, dNonE, dRev, dParV, dCallV, dStInt, dStTurn, dStNext, dMixed, dWhileS, dForS, dLcS, dStCells, dStPut, dAppPop, dBegun, dSeq, dCut, dNext, dFrzS, dSet, dSetN, dPar, dParN, dParM, dParNN, dDrop, dRet, dRetN, dIfS, dNever, dBreak, dCont, dAug, dApp, dPutL, dAugL, dIxO, dCBO, dOpO, dOpO2, dTupO, dWhile, dgName, dgNil, dgCons, dgTup, dAsg, dSeqI, dScrI, dRng1, dRng2, dRngN, dZip, dEnum, dFor, dLc, dLc2, dYes, dFrz, dVar, dC, dOp, dOpN, dUn, dChain, dNil, dCons, dTup, dCB, dCBN, dCall, dB, dAnd, dOr, dNot, dAndV, dOrV, dNotV, dIf, dNone, dSome, dSl, dIsi, dIsi2, dListR1, dListR2, dLenScr, dCallS, fLt, fLe, fGt, fGe, fSub, fFdiv, fMod, fPow, fIMul, fInt, fInt0, fCmp, fEq, fAdd, fMul, fRepN, fCatN, fNeg, fIs, fIn, flatD, fIx, fSl, fLen, fAbs, fIntOf, fTwo, fTupOf, fListOf, fIpAdd, DL.seen, ty_int_non, ty_int_bool, ty_int_int, ty_int_str, ty_int_list, ty_int_tuple, ty_bool_non, ty_bool_bool, ty_bool_int, ty_bool_str, ty_bool_list, ty_bool_tuple, ty_str_non, ty_str_bool, ty_str_int, ty_str_str, ty_str_list, ty_str_tuple, ty_list_non, ty_list_bool, ty_list_int, ty_list_str, ty_list_list, ty_list_tuple, ty_tuple_non, ty_tuple_bool, ty_tuple_int, ty_tuple_str, ty_tuple_list, ty_tuple_tuple, ty_dict_non, ty_dict_bool, ty_dict_int, ty_dict_str, ty_dict_list, ty_dict_tuple, Bool.not_false, Bool.not_true, List.getElem?_cons_zero, List.getElem?_cons_succ, List.set_cons_zero, List.set_cons_succ, br_t, br_f, wipeE, ↓reduceIte]
    exact h
abbrev sc_parted : Scope := defScope s_parted
theorem scp_parted : FnScope N_parted ["turnings", "bond"] sc_parted := ⟨rfl, rfl, rfl, by decide +kernel, rfl, by decide +kernel, by decide +kernel⟩
theorem ok_parted {P : Program} {w : World} {K : PySem.W.Frag} {mg : Str → Option Value} {base : Heap} (h : Hd K mg) (c_shared : Fn P w K mg base 1 "shared" (spD K phi_shared)) (c_by_class : Fn P w K mg base 2 "by_class" (spD K phi_by_class)) (c_rests_of : Fn P w K mg base 1 "rests_of" (spD K phi_rests_of)) : Fn P w K mg base 3 "parted" (spD K phi_parted) := by
  obtain ⟨f, fd, F, hm⟩ := h.f_parted
  have sc := scp_parted
  exact Fn.mk' (fn_pure F scp_parted len_parted fun cdv A outer s H E hr => ⟨_, d_parted, (q_cons (s_setN 2 sc.nd (pn_lst pa_n))
  (q_cons (s_for (i_seq (pd_v 0)) (g_name 3 sc.nd)
  (q_cons (s_set 4 sc.nd (pd_fdiv (pd_ix (pd_v 3) pd_i) (pd_call c_shared hr (pa_c (pd_ix (pd_v 3) pd_i) (pa_c (pd_v 1) pa_n)))))
  (q_one (s_app 2 (pd_tup (pa_c (pd_call c_by_class hr (pa_c (pd_ix (pd_v 3) pd_i) (pa_c (pd_v 1) (pa_c (pd_call c_rests_of hr (pa_c (pd_v 3) pa_n)) pa_n)))) (pa_c (pd_v 4) pa_n)))))))
  (q_one (s_frz 2 (s_ret (pd_v 2)))))), rd_parted⟩) hm F.kp (F.bindsN fun _ _ _ _ _ _ us hl => match us, hl with | [_, _], _ => rfl)
/-! counts -/
def rowF (row : List Int) (p q : Int) : Nat → List Int
  | 0 => List.replicate (row.length + 1) 0
  | j + 1 => ((rowF row p q j).set j ((rowF row p q j).getD j 0 + row.getD j 0 * p)).set (j + 1) (((rowF row p q j).set j ((rowF row p q j).getD j 0 + row.getD j 0 * p)).getD (j + 1) 0 + row.getD j 0 * q)
theorem rowF_len (row : List Int) (p q : Int) : ∀ j, (rowF row p q j).length = row.length + 1
  | 0 => by simp [rowF]
  | j + 1 => by simp [rowF, rowF_len row p q j]
theorem getD_at {l : List Int} {i : Nat} (h : i < l.length) : l[i]? = some (l.getD i 0) := by simp [h]
def prodS (as bs : List Int) (r : Nat) : Int := ((List.range r).map fun (k : Nat) => (as.count (k : Int) : Int) * (bs.count (k : Int) : Int)).sum
def phi_counts : Ph := fun ds P => ∃ n os st us sv, ds = [.list [tT n os st, tT n us sv]] ∧ OkT n os st ∧ OkT n us sv ∧ ∀ c0 c1, P (.tuple (iL [c0, c1, prodS (basR n os st) (basR n us sv) n.toNat]))
theorem len_counts : ∀ ds Q, phi_counts ds Q → ds.length = 1 := by rintro ds Q ⟨n, os, st, us, sv, rfl, _⟩; rfl
/-! counts(turnings): turnings=0 bond=1 some=2 total=3 remainder=4 row=5 often=6 each=7 later=8 many=9 number=10 one=11 other=12 -/
abbrev N_counts : List Str := ["turnings", "bond", "some", "total", "remainder", "row", "often", "each", "later", "many", "number", "one", "other"]
def d_counts : DS := (dSeq (dSet 1 (dCall phi_need_bond (dCons (dVar 0) dNil)))
  (dSeq (dPar 2 3 (dCall phi_parted (dCons (dVar 0) (dCons (dVar 1) dNil))) (dOp fMul (dFrz (dCons (dC (.int 0)) dNil)) (dOp fAdd (dCB fLen (dCons (dVar 0) dNil)) (dC (.int 1)))))
  (dSeq (dFor (dRng1 (dCons (dVar 1) dNil)) (dgName 4)
  (dSeq (dSet 5 (dFrz (dCons (dC (.int 1)) dNil)))
  (dSeq (dFor (dSeqI (dVar 2)) (dgTup 2 (dgCons (dgName 6) (dgCons (dgName 7) dgNil)))
  (dSeq (dSetN 8 (dOpN fRepN (dFrz (dCons (dC (.int 0)) dNil)) (dOp fAdd (dCB fLen (dCons (dVar 5) dNil)) (dC (.int 1)))))
  (dSeq (dFor (dEnum (dCons (dVar 5) dNil)) (dgTup 2 (dgCons (dgName 9) (dgCons (dgName 10) dgNil)))
  (dSeq (dAugL 8 (dVar 9) fIpAdd (dOp fMul (dVar 10) (dOp fSub (dVar 7) (dOp fIx (dVar 6) (dVar 4)))))
  (dAugL 8 (dOp fAdd (dVar 9) (dC (.int 1))) fIpAdd (dOp fMul (dVar 10) (dOp fIx (dVar 6) (dVar 4))))))
  (dFrzS 8 (dSet 5 (dVar 8))))))
  (dSet 3 (dFrz (dLc (dZip (dCons (dVar 3) (dCons (dVar 5) dNil))) (dgTup 2 (dgCons (dgName 11) (dgCons (dgName 12) dgNil))) dYes (dOp fAdd (dVar 11) (dVar 12)) [11, 12]))))))
  (dRet (dCB fTupOf (dCons (dVar 3) dNil))))))
theorem count_small {os : List Int} {n st x : Int} (h : OkT n os st) : (0 : Int) ≤ ((basR n os st).count x : Int) ∧ ((basR n os st).count x : Int) ≤ 1000 := by
  have h1 := List.count_le_length (a := x) (l := basR n os st)
  have h2 : (basR n os st).length = os.length := by simp [basR]
  have := h.len
  omega
theorem rd_counts : ∀ ds Q, phi_counts ds Q → d_counts { nx := fun _ => Q .none, rt := fun x _ => Q x } (startE N_counts.length ds) := by
  rintro ds Q ⟨n, os, st, us, sv, rfl, ok, ok2, h⟩
  show d_counts _ [C.d (.list [tT n os st, tT n us sv]), .no, .no, .no, .no, .no, .no, .no, .no, .no, .no, .no, .no]
  simp (config := { maxSteps := 4000000 }) only [d_counts, dRaise1, dXCall, dXApp, dCaught, dIsE, dXat, dNonE, dRev, dParV, dCallV, dStInt, dStTurn, dStNext, dMixed, dWhileS, dForS, dLcS, dStCells, dStPut, dAppPop, dBegun, dSeq, dCut, dNext, dFrzS, dSet, dSetN, dPar, dParN, dParM, dParNN, dDrop, dRet, dRetN, dIfS, dNever, dBreak, dCont, dAug, dApp, dPutL, dAugL, dIxO, dCBO, dOpO, dOpO2, dTupO, dWhile, dgName, dgNil, dgCons, dgTup, dAsg, dSeqI, dScrI, dRng1, dRng2, dRngN, dZip, dEnum, dFor, dLc, dLc2, dYes, dFrz, dVar, dC, dOp, dOpN, dUn, dChain, dNil, dCons, dTup, dCB, dCBN, dCall, dB, dAnd, dOr, dNot, dAndV, dOrV, dNotV, dIf, dNone, dSome, dSl, dIsi, dIsi2, dListR1, dListR2, dLenScr, dCallS, fLt, fLe, fGt, fGe, fSub, fFdiv, fMod, fPow, fIMul, fInt, fInt0, fCmp, fEq, fAdd, fMul, fRepN, fCatN, fNeg, fIs, fIn, flatD, fIx, fSl, fLen, fAbs, fIntOf, fTwo, fTupOf, fListOf, fIpAdd, DL.seen, ty_int_non, ty_int_bool, ty_int_int, ty_int_str, ty_int_list, ty_int_tuple, ty_bool_non, ty_bool_bool, ty_bool_int, ty_bool_str, ty_bool_list, ty_bool_tuple, ty_str_non, ty_str_bool, ty_str_int, ty_str_str, ty_str_list, ty_str_tuple, ty_list_non, ty_list_bool, ty_list_int, ty_list_str, ty_list_list, ty_list_tuple, ty_tuple_non, ty_tuple_bool, ty_tuple_int, ty_tuple_str, ty_tuple_list, ty_tuple_tuple, ty_dict_non, ty_dict_bool, ty_dict_int, ty_dict_str, ty_dict_list, ty_dict_tuple, Bool.not_false, Bool.not_true, List.getElem?_cons_zero, List.getElem?_cons_succ, List.set_cons_zero, List.set_cons_succ, br_t, br_f, wipeE, ↓reduceIte]
  have n1 := ok.n1
  have n2 := ok.n2
  have eg : ((Int.gcd n n : Nat) : Int) = n := by rw [Int.gcd_self]; omega
  refine ⟨n, os, st, n, us, sv, rfl, ok, ok2, ?_⟩
  rw [eg]
  refine ⟨n, os, st, us, sv, rfl, ok, ok2, ?_⟩
  simp (config := { maxSteps := 4000000 }) only [rep0, dRaise1, dXCall, dXApp, dCaught, dIsE, dXat, dNonE, dRev, dParV, dCallV, dStInt, dStTurn, dStNext, dMixed, dWhileS, dForS, dLcS, dStCells, dStPut, dAppPop, dBegun, dSeq, dCut, dNext, dFrzS, dSet, dSetN, dPar, dParN, dParM, dParNN, dDrop, dRet, dRetN, dIfS, dNever, dBreak, dCont, dAug, dApp, dPutL, dAugL, dIxO, dCBO, dOpO, dOpO2, dTupO, dWhile, dgName, dgNil, dgCons, dgTup, dAsg, dSeqI, dScrI, dRng1, dRng2, dRngN, dZip, dEnum, dFor, dLc, dLc2, dYes, dFrz, dVar, dC, dOp, dOpN, dUn, dChain, dNil, dCons, dTup, dCB, dCBN, dCall, dB, dAnd, dOr, dNot, dAndV, dOrV, dNotV, dIf, dNone, dSome, dSl, dIsi, dIsi2, dListR1, dListR2, dLenScr, dCallS, fLt, fLe, fGt, fGe, fSub, fFdiv, fMod, fPow, fIMul, fInt, fInt0, fCmp, fEq, fAdd, fMul, fRepN, fCatN, fNeg, fIs, fIn, flatD, fIx, fSl, fLen, fAbs, fIntOf, fTwo, fTupOf, fListOf, fIpAdd, DL.seen, ty_int_non, ty_int_bool, ty_int_int, ty_int_str, ty_int_list, ty_int_tuple, ty_bool_non, ty_bool_bool, ty_bool_int, ty_bool_str, ty_bool_list, ty_bool_tuple, ty_str_non, ty_str_bool, ty_str_int, ty_str_str, ty_str_list, ty_str_tuple, ty_list_non, ty_list_bool, ty_list_int, ty_list_str, ty_list_list, ty_list_tuple, ty_tuple_non, ty_tuple_bool, ty_tuple_int, ty_tuple_str, ty_tuple_list, ty_tuple_tuple, ty_dict_non, ty_dict_bool, ty_dict_int, ty_dict_str, ty_dict_list, ty_dict_tuple, Bool.not_false, Bool.not_true, List.getElem?_cons_zero, List.getElem?_cons_succ, List.set_cons_zero, List.set_cons_succ, br_t, br_f, wipeE, ↓reduceIte]
  refine ⟨⟨(by decide : (3 : Int) < 2 ^ 63), (by decide : -(2 ^ 63) ≤ (3 : Int)), (by rw [sizeLine_eq]; decide : 1 * (3 : Int).toNat ≤ sizeLine)⟩, ⟨by omega, by omega⟩, ?_⟩
  generalize hS : ([.tuple [.list (iL (clsL n os st)), .int 1], .tuple [.list (iL (clsL n us sv)), .int 1]] : List PyData) = some2
  refine ⟨fun r E => ∃ t0 t1 c4 c5 c6 c7 c8 c9 c10, E = [C.d (.list [tT n os st, tT n us sv]), C.d (.int n), C.d (.list some2), C.d (.list (iL [t0, t1, prodS (basR n os st) (basR n us sv) r])), c4, c5, c6, c7, c8, c9, c10, .no, .no], ⟨0, 0, _, _, _, _, _, _, _, rfl⟩, ?_, ?_⟩
  · rintro r x E hx ⟨t0, t1, c4, c5, c6, c7, c8, c9, c10, rfl⟩
    obtain ⟨hr, rfl⟩ := rgD_at hx
    rw [Int.zero_add]
    simp (config := { maxSteps := 4000000 }) only [dRaise1, dXCall, dXApp, dCaught, dIsE, dXat, dNonE, dRev, dParV, dCallV, dStInt, dStTurn, dStNext, dMixed, dWhileS, dForS, dLcS, dStCells, dStPut, dAppPop, dBegun, dSeq, dCut, dNext, dFrzS, dSet, dSetN, dPar, dParN, dParM, dParNN, dDrop, dRet, dRetN, dIfS, dNever, dBreak, dCont, dAug, dApp, dPutL, dAugL, dIxO, dCBO, dOpO, dOpO2, dTupO, dWhile, dgName, dgNil, dgCons, dgTup, dAsg, dSeqI, dScrI, dRng1, dRng2, dRngN, dZip, dEnum, dFor, dLc, dLc2, dYes, dFrz, dVar, dC, dOp, dOpN, dUn, dChain, dNil, dCons, dTup, dCB, dCBN, dCall, dB, dAnd, dOr, dNot, dAndV, dOrV, dNotV, dIf, dNone, dSome, dSl, dIsi, dIsi2, dListR1, dListR2, dLenScr, dCallS, fLt, fLe, fGt, fGe, fSub, fFdiv, fMod, fPow, fIMul, fInt, fInt0, fCmp, fEq, fAdd, fMul, fRepN, fCatN, fNeg, fIs, fIn, flatD, fIx, fSl, fLen, fAbs, fIntOf, fTwo, fTupOf, fListOf, fIpAdd, DL.seen, ty_int_non, ty_int_bool, ty_int_int, ty_int_str, ty_int_list, ty_int_tuple, ty_bool_non, ty_bool_bool, ty_bool_int, ty_bool_str, ty_bool_list, ty_bool_tuple, ty_str_non, ty_str_bool, ty_str_int, ty_str_str, ty_str_list, ty_str_tuple, ty_list_non, ty_list_bool, ty_list_int, ty_list_str, ty_list_list, ty_list_tuple, ty_tuple_non, ty_tuple_bool, ty_tuple_int, ty_tuple_str, ty_tuple_list, ty_tuple_tuple, ty_dict_non, ty_dict_bool, ty_dict_int, ty_dict_str, ty_dict_list, ty_dict_tuple, Bool.not_false, Bool.not_true, List.getElem?_cons_zero, List.getElem?_cons_succ, List.set_cons_zero, List.set_cons_succ, br_t, br_f, wipeE, ↓reduceIte]
    have b1 := count_small (x := (r : Int)) ok
    have b2 := count_small (x := (r : Int)) ok2
    generalize hq1 : ((basR n os st).count (r : Int) : Int) = q1 at b1
    generalize hq2 : ((basR n us sv).count (r : Int) : Int) = q2 at b2
    refine ⟨fun i E => ∃ c6 c7 c8 c9 c10, E = [C.d (.list [tT n os st, tT n us sv]), C.d (.int n), C.d (.list some2), C.d (.list (iL [t0, t1, prodS (basR n os st) (basR n us sv) r])), C.d (.int r), C.d (.list (iL (if i = 0 then [1] else if i = 1 then rowF [1] (1 - q1) q1 1 else rowF (rowF [1] (1 - q1) q1 1) (1 - q2) q2 2))), c6, c7, c8, c9, c10, .no, .no], ⟨_, _, _, _, _, rfl⟩, ?_, ?_⟩
    · rintro i x E hx ⟨c6, c7, c8, c9, c10, rfl⟩
      subst hS
      obtain ⟨os', st', q, row, rfl, hq, hq0, hq1', hl, e1, e2⟩ : ∃ (os' : List Int) (st' q : Int) (row : List Int), x = .tuple [.list (iL (clsL n os' st')), .int 1] ∧ ((basR n os' st').count (r : Int) : Int) = q ∧ 0 ≤ q ∧ q ≤ 1000 ∧ row.length ≤ 10 ∧
          (if i = 0 then [1] else if i = 1 then rowF [1] (1 - q1) q1 1 else rowF (rowF [1] (1 - q1) q1 1) (1 - q2) q2 2) = row ∧
          (if i + 1 = 0 then [1] else if i + 1 = 1 then rowF [1] (1 - q1) q1 1 else rowF (rowF [1] (1 - q1) q1 1) (1 - q2) q2 2) = rowF row (1 - q) q row.length := by
        rcases two_at hx with ⟨rfl, rfl⟩ | ⟨rfl, rfl⟩
        · exact ⟨os, st, q1, [1], rfl, hq1, b1.1, b1.2, by decide, rfl, rfl⟩
        · exact ⟨us, sv, q2, rowF [1] (1 - q1) q1 1, rfl, hq2, b2.1, b2.2, by rw [rowF_len]; decide, rfl, by rw [rowF_len]; rfl⟩
      rw [e1]
      simp (config := { maxSteps := 4000000 }) only [rep0, dRaise1, dXCall, dXApp, dCaught, dIsE, dXat, dNonE, dRev, dParV, dCallV, dStInt, dStTurn, dStNext, dMixed, dWhileS, dForS, dLcS, dStCells, dStPut, dAppPop, dBegun, dSeq, dCut, dNext, dFrzS, dSet, dSetN, dPar, dParN, dParM, dParNN, dDrop, dRet, dRetN, dIfS, dNever, dBreak, dCont, dAug, dApp, dPutL, dAugL, dIxO, dCBO, dOpO, dOpO2, dTupO, dWhile, dgName, dgNil, dgCons, dgTup, dAsg, dSeqI, dScrI, dRng1, dRng2, dRngN, dZip, dEnum, dFor, dLc, dLc2, dYes, dFrz, dVar, dC, dOp, dOpN, dUn, dChain, dNil, dCons, dTup, dCB, dCBN, dCall, dB, dAnd, dOr, dNot, dAndV, dOrV, dNotV, dIf, dNone, dSome, dSl, dIsi, dIsi2, dListR1, dListR2, dLenScr, dCallS, fLt, fLe, fGt, fGe, fSub, fFdiv, fMod, fPow, fIMul, fInt, fInt0, fCmp, fEq, fAdd, fMul, fRepN, fCatN, fNeg, fIs, fIn, flatD, fIx, fSl, fLen, fAbs, fIntOf, fTwo, fTupOf, fListOf, fIpAdd, DL.seen, ty_int_non, ty_int_bool, ty_int_int, ty_int_str, ty_int_list, ty_int_tuple, ty_bool_non, ty_bool_bool, ty_bool_int, ty_bool_str, ty_bool_list, ty_bool_tuple, ty_str_non, ty_str_bool, ty_str_int, ty_str_str, ty_str_list, ty_str_tuple, ty_list_non, ty_list_bool, ty_list_int, ty_list_str, ty_list_list, ty_list_tuple, ty_tuple_non, ty_tuple_bool, ty_tuple_int, ty_tuple_str, ty_tuple_list, ty_tuple_tuple, ty_dict_non, ty_dict_bool, ty_dict_int, ty_dict_str, ty_dict_list, ty_dict_tuple, Bool.not_false, Bool.not_true, List.getElem?_cons_zero, List.getElem?_cons_succ, List.set_cons_zero, List.set_cons_succ, br_t, br_f, wipeE, ↓reduceIte]
      refine ⟨rfl, ⟨by rw [iL_len]; omega, by omega, by rw [sizeLine_eq, iL_len]; simp; omega⟩, ?_⟩
      refine ⟨fun j E => ∃ c9 c10, E = [C.d (.list [tT n os st, tT n us sv]), C.d (.int n), C.d (.list [.tuple [.list (iL (clsL n os st)), .int 1], .tuple [.list (iL (clsL n us sv)), .int 1]]), C.d (.list (iL [t0, t1, prodS (basR n os st) (basR n us sv) r])), C.d (.int r), C.d (.list (iL row)), C.d (.list (iL (clsL n os' st'))), C.d (.int 1), C.l (iL (rowF row (1 - q) q j)), c9, c10, .no, .no], ⟨c9, c10, ?_⟩, ?_, ?_⟩
      · have e3 : ((iL row).length + 1 : Int).toNat = row.length + 1 := by rw [iL_len]; omega
        rw [e3]
        rfl
      · rintro j y E hy ⟨c9, c10, rfl⟩
        obtain ⟨z, hz0, rfl⟩ := enD_at hy
        obtain ⟨z, hz, rfl⟩ := iL_at hz0
        have hj : j < row.length := (List.getElem?_eq_some_iff.mp hz).1
        have ez : row.getD j 0 = z := by rw [List.getD_eq_getElem?_getD, hz]; rfl
        have gr : (clsL n os' st')[((r : Int)).toNat]? = some q := by
          rw [← hq]
          exact hist_get (k := r) (by omega)
        simp (config := { maxSteps := 4000000 }) only [dRaise1, dXCall, dXApp, dCaught, dIsE, dXat, dNonE, dRev, dParV, dCallV, dStInt, dStTurn, dStNext, dMixed, dWhileS, dForS, dLcS, dStCells, dStPut, dAppPop, dBegun, dSeq, dCut, dNext, dFrzS, dSet, dSetN, dPar, dParN, dParM, dParNN, dDrop, dRet, dRetN, dIfS, dNever, dBreak, dCont, dAug, dApp, dPutL, dAugL, dIxO, dCBO, dOpO, dOpO2, dTupO, dWhile, dgName, dgNil, dgCons, dgTup, dAsg, dSeqI, dScrI, dRng1, dRng2, dRngN, dZip, dEnum, dFor, dLc, dLc2, dYes, dFrz, dVar, dC, dOp, dOpN, dUn, dChain, dNil, dCons, dTup, dCB, dCBN, dCall, dB, dAnd, dOr, dNot, dAndV, dOrV, dNotV, dIf, dNone, dSome, dSl, dIsi, dIsi2, dListR1, dListR2, dLenScr, dCallS, fLt, fLe, fGt, fGe, fSub, fFdiv, fMod, fPow, fIMul, fInt, fInt0, fCmp, fEq, fAdd, fMul, fRepN, fCatN, fNeg, fIs, fIn, flatD, fIx, fSl, fLen, fAbs, fIntOf, fTwo, fTupOf, fListOf, fIpAdd, DL.seen, ty_int_non, ty_int_bool, ty_int_int, ty_int_str, ty_int_list, ty_int_tuple, ty_bool_non, ty_bool_bool, ty_bool_int, ty_bool_str, ty_bool_list, ty_bool_tuple, ty_str_non, ty_str_bool, ty_str_int, ty_str_str, ty_str_list, ty_str_tuple, ty_list_non, ty_list_bool, ty_list_int, ty_list_str, ty_list_list, ty_list_tuple, ty_tuple_non, ty_tuple_bool, ty_tuple_int, ty_tuple_str, ty_tuple_list, ty_tuple_tuple, ty_dict_non, ty_dict_bool, ty_dict_int, ty_dict_str, ty_dict_list, ty_dict_tuple, Bool.not_false, Bool.not_true, List.getElem?_cons_zero, List.getElem?_cons_succ, List.set_cons_zero, List.set_cons_succ, br_t, br_f, wipeE, ↓reduceIte]
        refine ⟨rfl, j, _, ixN_nat (by rw [iL_len, rowF_len]; omega), by rw [List.getElem?_map, getD_at (by rw [rowF_len]; omega)]; rfl, ?_⟩
        refine ⟨_, atI_int (by omega) gr, ?_⟩
        simp (config := { maxSteps := 4000000 }) only [dRaise1, dXCall, dXApp, dCaught, dIsE, dXat, dNonE, dRev, dParV, dCallV, dStInt, dStTurn, dStNext, dMixed, dWhileS, dForS, dLcS, dStCells, dStPut, dAppPop, dBegun, dSeq, dCut, dNext, dFrzS, dSet, dSetN, dPar, dParN, dParM, dParNN, dDrop, dRet, dRetN, dIfS, dNever, dBreak, dCont, dAug, dApp, dPutL, dAugL, dIxO, dCBO, dOpO, dOpO2, dTupO, dWhile, dgName, dgNil, dgCons, dgTup, dAsg, dSeqI, dScrI, dRng1, dRng2, dRngN, dZip, dEnum, dFor, dLc, dLc2, dYes, dFrz, dVar, dC, dOp, dOpN, dUn, dChain, dNil, dCons, dTup, dCB, dCBN, dCall, dB, dAnd, dOr, dNot, dAndV, dOrV, dNotV, dIf, dNone, dSome, dSl, dIsi, dIsi2, dListR1, dListR2, dLenScr, dCallS, fLt, fLe, fGt, fGe, fSub, fFdiv, fMod, fPow, fIMul, fInt, fInt0, fCmp, fEq, fAdd, fMul, fRepN, fCatN, fNeg, fIs, fIn, flatD, fIx, fSl, fLen, fAbs, fIntOf, fTwo, fTupOf, fListOf, fIpAdd, DL.seen, ty_int_non, ty_int_bool, ty_int_int, ty_int_str, ty_int_list, ty_int_tuple, ty_bool_non, ty_bool_bool, ty_bool_int, ty_bool_str, ty_bool_list, ty_bool_tuple, ty_str_non, ty_str_bool, ty_str_int, ty_str_str, ty_str_list, ty_str_tuple, ty_list_non, ty_list_bool, ty_list_int, ty_list_str, ty_list_list, ty_list_tuple, ty_tuple_non, ty_tuple_bool, ty_tuple_int, ty_tuple_str, ty_tuple_list, ty_tuple_tuple, ty_dict_non, ty_dict_bool, ty_dict_int, ty_dict_str, ty_dict_list, ty_dict_tuple, Bool.not_false, Bool.not_true, List.getElem?_cons_zero, List.getElem?_cons_succ, List.set_cons_zero, List.set_cons_succ, br_t, br_f, wipeE, ↓reduceIte]
        refine ⟨.inl (.inr ⟨by omega, by omega⟩), j + 1, .int (((rowF row (1 - q) q j).set j ((rowF row (1 - q) q j).getD j 0 + z * (1 - q))).getD (j + 1) 0), ?_, ?_, ?_⟩
        · have e4 : ((j : Int) + 1) = ((j + 1 : Nat) : Int) := by omega
          rw [e4]
          exact ixN_nat (by rw [List.length_set, iL_len, rowF_len]; omega)
        · rw [iL_set, List.getElem?_map, getD_at (by rw [List.length_set, rowF_len]; omega)]
          rfl
        refine ⟨_, atI_int (by omega) gr, ?_⟩
        simp (config := { maxSteps := 4000000 }) only [dRaise1, dXCall, dXApp, dCaught, dIsE, dXat, dNonE, dRev, dParV, dCallV, dStInt, dStTurn, dStNext, dMixed, dWhileS, dForS, dLcS, dStCells, dStPut, dAppPop, dBegun, dSeq, dCut, dNext, dFrzS, dSet, dSetN, dPar, dParN, dParM, dParNN, dDrop, dRet, dRetN, dIfS, dNever, dBreak, dCont, dAug, dApp, dPutL, dAugL, dIxO, dCBO, dOpO, dOpO2, dTupO, dWhile, dgName, dgNil, dgCons, dgTup, dAsg, dSeqI, dScrI, dRng1, dRng2, dRngN, dZip, dEnum, dFor, dLc, dLc2, dYes, dFrz, dVar, dC, dOp, dOpN, dUn, dChain, dNil, dCons, dTup, dCB, dCBN, dCall, dB, dAnd, dOr, dNot, dAndV, dOrV, dNotV, dIf, dNone, dSome, dSl, dIsi, dIsi2, dListR1, dListR2, dLenScr, dCallS, fLt, fLe, fGt, fGe, fSub, fFdiv, fMod, fPow, fIMul, fInt, fInt0, fCmp, fEq, fAdd, fMul, fRepN, fCatN, fNeg, fIs, fIn, flatD, fIx, fSl, fLen, fAbs, fIntOf, fTwo, fTupOf, fListOf, fIpAdd, DL.seen, ty_int_non, ty_int_bool, ty_int_int, ty_int_str, ty_int_list, ty_int_tuple, ty_bool_non, ty_bool_bool, ty_bool_int, ty_bool_str, ty_bool_list, ty_bool_tuple, ty_str_non, ty_str_bool, ty_str_int, ty_str_str, ty_str_list, ty_str_tuple, ty_list_non, ty_list_bool, ty_list_int, ty_list_str, ty_list_list, ty_list_tuple, ty_tuple_non, ty_tuple_bool, ty_tuple_int, ty_tuple_str, ty_tuple_list, ty_tuple_tuple, ty_dict_non, ty_dict_bool, ty_dict_int, ty_dict_str, ty_dict_list, ty_dict_tuple, Bool.not_false, Bool.not_true, List.getElem?_cons_zero, List.getElem?_cons_succ, List.set_cons_zero, List.set_cons_succ, br_t, br_f, wipeE, ↓reduceIte]
        refine ⟨.inl (.inr ⟨by omega, by omega⟩), C.d (.int j), C.d (.int z), ?_⟩
        rw [iL_set, iL_set]
        subst ez
        rfl
      · rintro E ⟨c9, c10, rfl⟩
        simp (config := { maxSteps := 4000000 }) only [dRaise1, dXCall, dXApp, dCaught, dIsE, dXat, dNonE, dRev, dParV, dCallV, dStInt, dStTurn, dStNext, dMixed, dWhileS, dForS, dLcS, dStCells, dStPut, dAppPop, dBegun, dSeq, dCut, dNext, dFrzS, dSet, dSetN, dPar, dParN, dParM, dParNN, dDrop, dRet, dRetN, dIfS, dNever, dBreak, dCont, dAug, dApp, dPutL, dAugL, dIxO, dCBO, dOpO, dOpO2, dTupO, dWhile, dgName, dgNil, dgCons, dgTup, dAsg, dSeqI, dScrI, dRng1, dRng2, dRngN, dZip, dEnum, dFor, dLc, dLc2, dYes, dFrz, dVar, dC, dOp, dOpN, dUn, dChain, dNil, dCons, dTup, dCB, dCBN, dCall, dB, dAnd, dOr, dNot, dAndV, dOrV, dNotV, dIf, dNone, dSome, dSl, dIsi, dIsi2, dListR1, dListR2, dLenScr, dCallS, fLt, fLe, fGt, fGe, fSub, fFdiv, fMod, fPow, fIMul, fInt, fInt0, fCmp, fEq, fAdd, fMul, fRepN, fCatN, fNeg, fIs, fIn, flatD, fIx, fSl, fLen, fAbs, fIntOf, fTwo, fTupOf, fListOf, fIpAdd, DL.seen, ty_int_non, ty_int_bool, ty_int_int, ty_int_str, ty_int_list, ty_int_tuple, ty_bool_non, ty_bool_bool, ty_bool_int, ty_bool_str, ty_bool_list, ty_bool_tuple, ty_str_non, ty_str_bool, ty_str_int, ty_str_str, ty_str_list, ty_str_tuple, ty_list_non, ty_list_bool, ty_list_int, ty_list_str, ty_list_list, ty_list_tuple, ty_tuple_non, ty_tuple_bool, ty_tuple_int, ty_tuple_str, ty_tuple_list, ty_tuple_tuple, ty_dict_non, ty_dict_bool, ty_dict_int, ty_dict_str, ty_dict_list, ty_dict_tuple, Bool.not_false, Bool.not_true, List.getElem?_cons_zero, List.getElem?_cons_succ, List.set_cons_zero, List.set_cons_succ, br_t, br_f, wipeE, ↓reduceIte]
        rw [enD_len, iL_len, e2]
        exact ⟨_, _, _, _, _, rfl⟩
    · rintro E ⟨c6, c7, c8, c9, c10, rfl⟩
      subst hS
      simp (config := { maxSteps := 4000000 }) only [dRaise1, dXCall, dXApp, dCaught, dIsE, dXat, dNonE, dRev, dParV, dCallV, dStInt, dStTurn, dStNext, dMixed, dWhileS, dForS, dLcS, dStCells, dStPut, dAppPop, dBegun, dSeq, dCut, dNext, dFrzS, dSet, dSetN, dPar, dParN, dParM, dParNN, dDrop, dRet, dRetN, dIfS, dNever, dBreak, dCont, dAug, dApp, dPutL, dAugL, dIxO, dCBO, dOpO, dOpO2, dTupO, dWhile, dgName, dgNil, dgCons, dgTup, dAsg, dSeqI, dScrI, dRng1, dRng2, dRngN, dZip, dEnum, dFor, dLc, dLc2, dYes, dFrz, dVar, dC, dOp, dOpN, dUn, dChain, dNil, dCons, dTup, dCB, dCBN, dCall, dB, dAnd, dOr, dNot, dAndV, dOrV, dNotV, dIf, dNone, dSome, dSl, dIsi, dIsi2, dListR1, dListR2, dLenScr, dCallS, fLt, fLe, fGt, fGe, fSub, fFdiv, fMod, fPow, fIMul, fInt, fInt0, fCmp, fEq, fAdd, fMul, fRepN, fCatN, fNeg, fIs, fIn, flatD, fIx, fSl, fLen, fAbs, fIntOf, fTwo, fTupOf, fListOf, fIpAdd, DL.seen, ty_int_non, ty_int_bool, ty_int_int, ty_int_str, ty_int_list, ty_int_tuple, ty_bool_non, ty_bool_bool, ty_bool_int, ty_bool_str, ty_bool_list, ty_bool_tuple, ty_str_non, ty_str_bool, ty_str_int, ty_str_str, ty_str_list, ty_str_tuple, ty_list_non, ty_list_bool, ty_list_int, ty_list_str, ty_list_list, ty_list_tuple, ty_tuple_non, ty_tuple_bool, ty_tuple_int, ty_tuple_str, ty_tuple_list, ty_tuple_tuple, ty_dict_non, ty_dict_bool, ty_dict_int, ty_dict_str, ty_dict_list, ty_dict_tuple, Bool.not_false, Bool.not_true, List.getElem?_cons_zero, List.getElem?_cons_succ, List.set_cons_zero, List.set_cons_succ, br_t, br_f, wipeE, ↓reduceIte]
      have el : ([.tuple [.list (iL (clsL n os st)), .int 1], .tuple [.list (iL (clsL n us sv)), .int 1]] : List PyData).length = 2 := rfl
      rw [el, if_neg (by decide), if_neg (by decide)]
      have e5 : rowF (rowF [1] (1 - q1) q1 1) (1 - q2) q2 2 = [(1 - q1) * (1 - q2), (1 - q1) * q2 + q1 * (1 - q2), q1 * q2] := by simp [rowF]
      rw [e5]
      have e6 : prodS (basR n os st) (basR n us sv) (r + 1) = prodS (basR n os st) (basR n us sv) r + q1 * q2 := by
        unfold prodS
        rw [List.range_succ, List.map_append, List.sum_append]
        simp [hq1, hq2]
      have e7 : zipD (iL [t0, t1, prodS (basR n os st) (basR n us sv) r]) (iL [(1 - q1) * (1 - q2), (1 - q1) * q2 + q1 * (1 - q2), q1 * q2]) = [.tuple [.int t0, .int ((1 - q1) * (1 - q2))], .tuple [.int t1, .int ((1 - q1) * q2 + q1 * (1 - q2))], .tuple [.int (prodS (basR n os st) (basR n us sv) r), .int (q1 * q2)]] := rfl
      rw [e7]
      refine ⟨rfl, fun i acc => acc = (iL [t0 + (1 - q1) * (1 - q2), t1 + ((1 - q1) * q2 + q1 * (1 - q2)), prodS (basR n os st) (basR n us sv) r + q1 * q2]).take i, rfl, line_big (by decide : 3 ≤ 1000), fun i x acc hx hw => ?_, fun acc hw => ?_⟩
      · rw [hw]
        match i, hx with
        | 0, hx => cases Option.some.inj hx; exact ⟨rfl, take_push rfl⟩
        | 1, hx => cases Option.some.inj hx; exact ⟨rfl, take_push rfl⟩
        | 2, hx => cases Option.some.inj hx; exact ⟨rfl, take_push rfl⟩
      · rw [hw, ← e6]
        exact ⟨_, _, _, _, _, _, _, _, _, rfl⟩
  · rintro E ⟨t0, t1, c4, c5, c6, c7, c8, c9, c10, rfl⟩
    simp (config := { maxSteps := 4000000 }) only [dRaise1, dXCall, dXApp, dCaught, dIsE, dXat, dNonE, dRev, dParV, dCallV, dStInt, dStTurn, dStNext, dMixed, dWhileS, dForS, dLcS, dStCells, dStPut, dAppPop, dBegun, dSeq, dCut, dNext, dFrzS, dSet, dSetN, dPar, dParN, dParM, dParNN, dDrop, dRet, dRetN, dIfS, dNever, dBreak, dCont, dAug, dApp, dPutL, dAugL, dIxO, dCBO, dOpO, dOpO2, dTupO, dWhile, dgName, dgNil, dgCons, dgTup, dAsg, dSeqI, dScrI, dRng1, dRng2, dRngN, dZip, dEnum, dFor, dLc, dLc2, dYes, dFrz, dVar, dC, dOp, dOpN, dUn, dChain, dNil, dCons, dTup, dCB, dCBN, dCall, dB, dAnd, dOr, dNot, dAndV, dOrV, dNotV, dIf, dNone, dSome, dSl, dIsi, dIsi2, dListR1, dListR2, dLenScr, dCallS, fLt, fLe, fGt, fGe, fSub, fFdiv, fMod, fPow, fIMul, fInt, fInt0, fCmp, fEq, fAdd, fMul, fRepN, fCatN, fNeg, fIs, fIn, flatD, fIx, fSl, fLen, fAbs, fIntOf, fTwo, fTupOf, fListOf, fIpAdd, DL.seen, ty_int_non, ty_int_bool, ty_int_int, ty_int_str, ty_int_list, ty_int_tuple, ty_bool_non, ty_bool_bool, ty_bool_int, ty_bool_str, ty_bool_list, ty_bool_tuple, ty_str_non, ty_str_bool, ty_str_int, ty_str_str, ty_str_list, ty_str_tuple, ty_list_non, ty_list_bool, ty_list_int, ty_list_str, ty_list_list, ty_list_tuple, ty_tuple_non, ty_tuple_bool, ty_tuple_int, ty_tuple_str, ty_tuple_list, ty_tuple_tuple, ty_dict_non, ty_dict_bool, ty_dict_int, ty_dict_str, ty_dict_list, ty_dict_tuple, Bool.not_false, Bool.not_true, List.getElem?_cons_zero, List.getElem?_cons_succ, List.set_cons_zero, List.set_cons_succ, br_t, br_f, wipeE, ↓reduceIte]
    rw [rgD_len]
    exact h t0 t1
abbrev sc_counts : Scope := defScope s_counts
theorem scp_counts : FnScope N_counts ["turnings"] sc_counts := ⟨rfl, rfl, rfl, by decide +kernel, rfl, by decide +kernel, by decide +kernel⟩
theorem ok_counts {P : Program} {w : World} {K : PySem.W.Frag} {mg : Str → Option Value} {base : Heap} (h : Hd K mg) (c_need_bond : Fn P w K mg base 5 "need_bond" (spD K phi_need_bond)) (c_parted : Fn P w K mg base 3 "parted" (spD K phi_parted)) : Fn P w K mg base 6 "counts" (spD K phi_counts) := by
  obtain ⟨f, fd, F, hm⟩ := h.f_counts
  have sc := scp_counts
  exact Fn.mk' (fn_pure F scp_counts len_counts fun cdv A outer s H E hr => ⟨_, d_counts, (q_cons (s_set 1 sc.nd (pd_call c_need_bond hr (pa_c (pd_v 0) pa_n)))
  (q_cons (s_par 2 3 sc.nd (pd_call c_parted hr (pa_c (pd_v 0) (pa_c (pd_v 1) pa_n))) (pd_mul (pd_f (pn_lst (pa_c pd_i pa_n))) (pd_add (pd_B cs_len call_len h.b_len PySem.boot_len (pa_c (pd_v 0) pa_n)) pd_i)))
  (q_cons (s_for (i_r1 h.b_range (pa_c (pd_v 1) pa_n)) (g_name 4 sc.nd)
  (q_cons (s_set 5 sc.nd (pd_f (pn_lst (pa_c pd_i pa_n))))
  (q_cons (s_for (i_seq (pd_v 2)) (g_tup 2 (gs_cons (g_name 6 sc.nd) (gs_cons (g_name 7 sc.nd) gs_nil)))
  (q_cons (s_setN 8 sc.nd (pn_rep (pd_f (pn_lst (pa_c pd_i pa_n))) (pd_add (pd_B cs_len call_len h.b_len PySem.boot_len (pa_c (pd_v 5) pa_n)) pd_i)))
  (q_cons (s_for (i_enum h.b_enumerate (pa_c (pd_v 5) pa_n)) (g_tup 2 (gs_cons (g_name 9 sc.nd) (gs_cons (g_name 10 sc.nd) gs_nil)))
  (q_cons (s_augL 8 ip_addA vs_ipAdd (pd_v 9) (pd_mul (pd_v 10) (pd_sub (pd_v 7) (pd_ix (pd_v 6) (pd_v 4)))))
  (q_one (s_augL 8 ip_addA vs_ipAdd (pd_add (pd_v 9) pd_i) (pd_mul (pd_v 10) (pd_ix (pd_v 6) (pd_v 4)))))))
  (q_one (s_frz 8 (s_set 5 sc.nd (pd_v 8)))))))
  (q_one (s_setLc 3 (l_lc [("one", 11), ("other", 12)] sc.nd (i_zip h.b_zip (pa_c (pd_v 3) (pa_c (pd_v 5) pa_n))) (blkOk_by (own := [("one", 11), ("other", 12)]) (N := N_counts) (sc := sc_counts) (by decide +kernel)) (fun _ _ _ _ _ => (g_tup 2 (gs_cons (g_name 11 sc.nd) (gs_cons (g_name 12 sc.nd) gs_nil)))) (fun _ _ _ _ _ => t_yes) (fun _ _ _ _ _ => (pd_add (pd_v 11) (pd_v 12)))))))))
  (q_one (s_ret (pd_T cs_tuple call_tuple_of h.b_tuple boot_tuple (pa_c (pd_v 3) pa_n))))))), rd_counts⟩) hm F.kp (F.bindsN fun _ _ _ _ _ _ us hl => match us, hl with | [_], _ => rfl)
end B12


namespace B12
open PySem PySem.Spec PyProof.Rows L2 DL
/-! phases -/
def phaseL (n : Int) (M : List Int) (R S : Int) : List Int := (List.range (n / (Int.gcd n S : Int)).toNat).map fun (b : Nat) => R * M.getD ((b : Int) * S % n).toNat 0
def phi_phases : Ph := fun ds P => ∃ n os st us sv R S, ds = [tT n os st, tT n us sv, .int R, .int S] ∧ OkT n os st ∧ OkT n us sv ∧ (1 ≤ R ∧ R ≤ 1000) ∧ (0 ≤ S ∧ S ≤ n - 1) ∧ P (.tuple (iL (phaseL n (meetL n os st n us sv) R S)))
theorem len_phases : ∀ ds Q, phi_phases ds Q → ds.length = 4 := by rintro ds Q ⟨n, os, st, us, sv, R, S, rfl, _⟩; rfl
/-! phases(one, other, rounds, step): one=0 other=1 rounds=2 step=3 often=4 blocks=5 block=6 -/
abbrev N_phases : List Str := ["one", "other", "rounds", "step", "often", "blocks", "block"]
def d_phases : DS := (dSeq (dDrop (dCall phi_need_two (dCons (dVar 0) (dCons (dVar 1) dNil))))
  (dSeq (dIfS (dB (dOp (fEq true) (dOp fIx (dVar 0) (dC (.int 0))) (dOp fIx (dVar 1) (dC (.int 0)))))
  dNever
  dNext)
  (dSeq (dIfS (dNot (dB (dCall phi_is_within (dCons (dVar 2) (dCons (dC (.int 1)) (dCons (dC (.int 1000)) dNil))))))
  dNever
  dNext)
  (dSeq (dIfS (dNot (dB (dCall phi_is_within (dCons (dVar 3) (dCons (dC (.int 0)) (dCons (dOp fSub (dOp fIx (dVar 0) (dC (.int 0))) (dC (.int 1))) dNil))))))
  dNever
  dNext)
  (dSeq (dAsg (dTup (dCons (dCall phi_meetings_of (dCons (dVar 0) (dCons (dVar 1) dNil))) (dCons (dOp fFdiv (dOp fIx (dVar 0) (dC (.int 0))) (dCall phi_shared (dCons (dOp fIx (dVar 0) (dC (.int 0))) (dCons (dVar 3) dNil)))) dNil))) (dgTup 2 (dgCons (dgName 4) (dgCons (dgName 5) dgNil))))
  (dRet (dCB fTupOf (dCons (dFrz (dLc (dRng1 (dCons (dVar 5) dNil)) (dgName 6) dYes (dOp fMul (dVar 2) (dOp fIx (dVar 4) (dOp fMod (dOp fMul (dVar 6) (dVar 3)) (dOp fIx (dVar 0) (dC (.int 0)))))) [6])) dNil))))))))
theorem meetL_len {n : Int} {os : List Int} {st : Int} {us : List Int} {sv : Int} (h : 1 ≤ n) : (meetL n os st n us sv).length = n.toNat := by
  unfold meetL
  rw [hist_len, Int.gcd_self]
  omega
theorem rd_phases : ∀ ds Q, phi_phases ds Q → d_phases { nx := fun _ => Q .none, rt := fun x _ => Q x } (startE N_phases.length ds) := by
  rintro ds Q ⟨n, os, st, us, sv, R, S, rfl, ok, ok2, hR, hS, h⟩
  show d_phases _ [C.d (tT n os st), C.d (tT n us sv), C.d (.int R), C.d (.int S), .no, .no, .no]
  simp (config := { maxSteps := 4000000 }) only [d_phases, dRaise1, dXCall, dXApp, dCaught, dIsE, dXat, dNonE, dRev, dParV, dCallV, dStInt, dStTurn, dStNext, dMixed, dWhileS, dForS, dLcS, dStCells, dStPut, dAppPop, dBegun, dSeq, dCut, dNext, dFrzS, dSet, dSetN, dPar, dParN, dParM, dParNN, dDrop, dRet, dRetN, dIfS, dNever, dBreak, dCont, dAug, dApp, dPutL, dAugL, dIxO, dCBO, dOpO, dOpO2, dTupO, dWhile, dgName, dgNil, dgCons, dgTup, dAsg, dSeqI, dScrI, dRng1, dRng2, dRngN, dZip, dEnum, dFor, dLc, dLc2, dYes, dFrz, dVar, dC, dOp, dOpN, dUn, dChain, dNil, dCons, dTup, dCB, dCBN, dCall, dB, dAnd, dOr, dNot, dAndV, dOrV, dNotV, dIf, dNone, dSome, dSl, dIsi, dIsi2, dListR1, dListR2, dLenScr, dCallS, fLt, fLe, fGt, fGe, fSub, fFdiv, fMod, fPow, fIMul, fInt, fInt0, fCmp, fEq, fAdd, fMul, fRepN, fCatN, fNeg, fIs, fIn, flatD, fIx, fSl, fLen, fAbs, fIntOf, fTwo, fTupOf, fListOf, fIpAdd, DL.seen, ty_int_non, ty_int_bool, ty_int_int, ty_int_str, ty_int_list, ty_int_tuple, ty_bool_non, ty_bool_bool, ty_bool_int, ty_bool_str, ty_bool_list, ty_bool_tuple, ty_str_non, ty_str_bool, ty_str_int, ty_str_str, ty_str_list, ty_str_tuple, ty_list_non, ty_list_bool, ty_list_int, ty_list_str, ty_list_list, ty_list_tuple, ty_tuple_non, ty_tuple_bool, ty_tuple_int, ty_tuple_str, ty_tuple_list, ty_tuple_tuple, ty_dict_non, ty_dict_bool, ty_dict_int, ty_dict_str, ty_dict_list, ty_dict_tuple, Bool.not_false, Bool.not_true, List.getElem?_cons_zero, List.getElem?_cons_succ, List.set_cons_zero, List.set_cons_succ, br_t, br_f, wipeE, ↓reduceIte]
  have n1 := ok.n1
  have n2 := ok.n2
  refine ⟨_, _, _, _, _, _, rfl, ok, ok2, _, atI0, _, atI0, ?_⟩
  simp (config := { maxSteps := 4000000 }) only [decide_true, dRaise1, dXCall, dXApp, dCaught, dIsE, dXat, dNonE, dRev, dParV, dCallV, dStInt, dStTurn, dStNext, dMixed, dWhileS, dForS, dLcS, dStCells, dStPut, dAppPop, dBegun, dSeq, dCut, dNext, dFrzS, dSet, dSetN, dPar, dParN, dParM, dParNN, dDrop, dRet, dRetN, dIfS, dNever, dBreak, dCont, dAug, dApp, dPutL, dAugL, dIxO, dCBO, dOpO, dOpO2, dTupO, dWhile, dgName, dgNil, dgCons, dgTup, dAsg, dSeqI, dScrI, dRng1, dRng2, dRngN, dZip, dEnum, dFor, dLc, dLc2, dYes, dFrz, dVar, dC, dOp, dOpN, dUn, dChain, dNil, dCons, dTup, dCB, dCBN, dCall, dB, dAnd, dOr, dNot, dAndV, dOrV, dNotV, dIf, dNone, dSome, dSl, dIsi, dIsi2, dListR1, dListR2, dLenScr, dCallS, fLt, fLe, fGt, fGe, fSub, fFdiv, fMod, fPow, fIMul, fInt, fInt0, fCmp, fEq, fAdd, fMul, fRepN, fCatN, fNeg, fIs, fIn, flatD, fIx, fSl, fLen, fAbs, fIntOf, fTwo, fTupOf, fListOf, fIpAdd, DL.seen, ty_int_non, ty_int_bool, ty_int_int, ty_int_str, ty_int_list, ty_int_tuple, ty_bool_non, ty_bool_bool, ty_bool_int, ty_bool_str, ty_bool_list, ty_bool_tuple, ty_str_non, ty_str_bool, ty_str_int, ty_str_str, ty_str_list, ty_str_tuple, ty_list_non, ty_list_bool, ty_list_int, ty_list_str, ty_list_list, ty_list_tuple, ty_tuple_non, ty_tuple_bool, ty_tuple_int, ty_tuple_str, ty_tuple_list, ty_tuple_tuple, ty_dict_non, ty_dict_bool, ty_dict_int, ty_dict_str, ty_dict_list, ty_dict_tuple, Bool.not_false, Bool.not_true, List.getElem?_cons_zero, List.getElem?_cons_succ, List.set_cons_zero, List.set_cons_succ, br_t, br_f, wipeE, ↓reduceIte]
  refine ⟨_, _, _, rfl, ?_⟩
  rw [decide_eq_true hR]
  simp (config := { maxSteps := 4000000 }) only [dRaise1, dXCall, dXApp, dCaught, dIsE, dXat, dNonE, dRev, dParV, dCallV, dStInt, dStTurn, dStNext, dMixed, dWhileS, dForS, dLcS, dStCells, dStPut, dAppPop, dBegun, dSeq, dCut, dNext, dFrzS, dSet, dSetN, dPar, dParN, dParM, dParNN, dDrop, dRet, dRetN, dIfS, dNever, dBreak, dCont, dAug, dApp, dPutL, dAugL, dIxO, dCBO, dOpO, dOpO2, dTupO, dWhile, dgName, dgNil, dgCons, dgTup, dAsg, dSeqI, dScrI, dRng1, dRng2, dRngN, dZip, dEnum, dFor, dLc, dLc2, dYes, dFrz, dVar, dC, dOp, dOpN, dUn, dChain, dNil, dCons, dTup, dCB, dCBN, dCall, dB, dAnd, dOr, dNot, dAndV, dOrV, dNotV, dIf, dNone, dSome, dSl, dIsi, dIsi2, dListR1, dListR2, dLenScr, dCallS, fLt, fLe, fGt, fGe, fSub, fFdiv, fMod, fPow, fIMul, fInt, fInt0, fCmp, fEq, fAdd, fMul, fRepN, fCatN, fNeg, fIs, fIn, flatD, fIx, fSl, fLen, fAbs, fIntOf, fTwo, fTupOf, fListOf, fIpAdd, DL.seen, ty_int_non, ty_int_bool, ty_int_int, ty_int_str, ty_int_list, ty_int_tuple, ty_bool_non, ty_bool_bool, ty_bool_int, ty_bool_str, ty_bool_list, ty_bool_tuple, ty_str_non, ty_str_bool, ty_str_int, ty_str_str, ty_str_list, ty_str_tuple, ty_list_non, ty_list_bool, ty_list_int, ty_list_str, ty_list_list, ty_list_tuple, ty_tuple_non, ty_tuple_bool, ty_tuple_int, ty_tuple_str, ty_tuple_list, ty_tuple_tuple, ty_dict_non, ty_dict_bool, ty_dict_int, ty_dict_str, ty_dict_list, ty_dict_tuple, Bool.not_false, Bool.not_true, List.getElem?_cons_zero, List.getElem?_cons_succ, List.set_cons_zero, List.set_cons_succ, br_t, br_f, wipeE, ↓reduceIte]
  refine ⟨_, atI0, ?_⟩
  simp (config := { maxSteps := 4000000 }) only [dRaise1, dXCall, dXApp, dCaught, dIsE, dXat, dNonE, dRev, dParV, dCallV, dStInt, dStTurn, dStNext, dMixed, dWhileS, dForS, dLcS, dStCells, dStPut, dAppPop, dBegun, dSeq, dCut, dNext, dFrzS, dSet, dSetN, dPar, dParN, dParM, dParNN, dDrop, dRet, dRetN, dIfS, dNever, dBreak, dCont, dAug, dApp, dPutL, dAugL, dIxO, dCBO, dOpO, dOpO2, dTupO, dWhile, dgName, dgNil, dgCons, dgTup, dAsg, dSeqI, dScrI, dRng1, dRng2, dRngN, dZip, dEnum, dFor, dLc, dLc2, dYes, dFrz, dVar, dC, dOp, dOpN, dUn, dChain, dNil, dCons, dTup, dCB, dCBN, dCall, dB, dAnd, dOr, dNot, dAndV, dOrV, dNotV, dIf, dNone, dSome, dSl, dIsi, dIsi2, dListR1, dListR2, dLenScr, dCallS, fLt, fLe, fGt, fGe, fSub, fFdiv, fMod, fPow, fIMul, fInt, fInt0, fCmp, fEq, fAdd, fMul, fRepN, fCatN, fNeg, fIs, fIn, flatD, fIx, fSl, fLen, fAbs, fIntOf, fTwo, fTupOf, fListOf, fIpAdd, DL.seen, ty_int_non, ty_int_bool, ty_int_int, ty_int_str, ty_int_list, ty_int_tuple, ty_bool_non, ty_bool_bool, ty_bool_int, ty_bool_str, ty_bool_list, ty_bool_tuple, ty_str_non, ty_str_bool, ty_str_int, ty_str_str, ty_str_list, ty_str_tuple, ty_list_non, ty_list_bool, ty_list_int, ty_list_str, ty_list_list, ty_list_tuple, ty_tuple_non, ty_tuple_bool, ty_tuple_int, ty_tuple_str, ty_tuple_list, ty_tuple_tuple, ty_dict_non, ty_dict_bool, ty_dict_int, ty_dict_str, ty_dict_list, ty_dict_tuple, Bool.not_false, Bool.not_true, List.getElem?_cons_zero, List.getElem?_cons_succ, List.set_cons_zero, List.set_cons_succ, br_t, br_f, wipeE, ↓reduceIte]
  refine ⟨_, _, _, rfl, ?_⟩
  rw [decide_eq_true hS]
  simp (config := { maxSteps := 4000000 }) only [dRaise1, dXCall, dXApp, dCaught, dIsE, dXat, dNonE, dRev, dParV, dCallV, dStInt, dStTurn, dStNext, dMixed, dWhileS, dForS, dLcS, dStCells, dStPut, dAppPop, dBegun, dSeq, dCut, dNext, dFrzS, dSet, dSetN, dPar, dParN, dParM, dParNN, dDrop, dRet, dRetN, dIfS, dNever, dBreak, dCont, dAug, dApp, dPutL, dAugL, dIxO, dCBO, dOpO, dOpO2, dTupO, dWhile, dgName, dgNil, dgCons, dgTup, dAsg, dSeqI, dScrI, dRng1, dRng2, dRngN, dZip, dEnum, dFor, dLc, dLc2, dYes, dFrz, dVar, dC, dOp, dOpN, dUn, dChain, dNil, dCons, dTup, dCB, dCBN, dCall, dB, dAnd, dOr, dNot, dAndV, dOrV, dNotV, dIf, dNone, dSome, dSl, dIsi, dIsi2, dListR1, dListR2, dLenScr, dCallS, fLt, fLe, fGt, fGe, fSub, fFdiv, fMod, fPow, fIMul, fInt, fInt0, fCmp, fEq, fAdd, fMul, fRepN, fCatN, fNeg, fIs, fIn, flatD, fIx, fSl, fLen, fAbs, fIntOf, fTwo, fTupOf, fListOf, fIpAdd, DL.seen, ty_int_non, ty_int_bool, ty_int_int, ty_int_str, ty_int_list, ty_int_tuple, ty_bool_non, ty_bool_bool, ty_bool_int, ty_bool_str, ty_bool_list, ty_bool_tuple, ty_str_non, ty_str_bool, ty_str_int, ty_str_str, ty_str_list, ty_str_tuple, ty_list_non, ty_list_bool, ty_list_int, ty_list_str, ty_list_list, ty_list_tuple, ty_tuple_non, ty_tuple_bool, ty_tuple_int, ty_tuple_str, ty_tuple_list, ty_tuple_tuple, ty_dict_non, ty_dict_bool, ty_dict_int, ty_dict_str, ty_dict_list, ty_dict_tuple, Bool.not_false, Bool.not_true, List.getElem?_cons_zero, List.getElem?_cons_succ, List.set_cons_zero, List.set_cons_succ, br_t, br_f, wipeE, ↓reduceIte]
  refine ⟨_, _, _, _, _, _, rfl, ok, ok2, ?_⟩
  simp (config := { maxSteps := 4000000 }) only [dRaise1, dXCall, dXApp, dCaught, dIsE, dXat, dNonE, dRev, dParV, dCallV, dStInt, dStTurn, dStNext, dMixed, dWhileS, dForS, dLcS, dStCells, dStPut, dAppPop, dBegun, dSeq, dCut, dNext, dFrzS, dSet, dSetN, dPar, dParN, dParM, dParNN, dDrop, dRet, dRetN, dIfS, dNever, dBreak, dCont, dAug, dApp, dPutL, dAugL, dIxO, dCBO, dOpO, dOpO2, dTupO, dWhile, dgName, dgNil, dgCons, dgTup, dAsg, dSeqI, dScrI, dRng1, dRng2, dRngN, dZip, dEnum, dFor, dLc, dLc2, dYes, dFrz, dVar, dC, dOp, dOpN, dUn, dChain, dNil, dCons, dTup, dCB, dCBN, dCall, dB, dAnd, dOr, dNot, dAndV, dOrV, dNotV, dIf, dNone, dSome, dSl, dIsi, dIsi2, dListR1, dListR2, dLenScr, dCallS, fLt, fLe, fGt, fGe, fSub, fFdiv, fMod, fPow, fIMul, fInt, fInt0, fCmp, fEq, fAdd, fMul, fRepN, fCatN, fNeg, fIs, fIn, flatD, fIx, fSl, fLen, fAbs, fIntOf, fTwo, fTupOf, fListOf, fIpAdd, DL.seen, ty_int_non, ty_int_bool, ty_int_int, ty_int_str, ty_int_list, ty_int_tuple, ty_bool_non, ty_bool_bool, ty_bool_int, ty_bool_str, ty_bool_list, ty_bool_tuple, ty_str_non, ty_str_bool, ty_str_int, ty_str_str, ty_str_list, ty_str_tuple, ty_list_non, ty_list_bool, ty_list_int, ty_list_str, ty_list_list, ty_list_tuple, ty_tuple_non, ty_tuple_bool, ty_tuple_int, ty_tuple_str, ty_tuple_list, ty_tuple_tuple, ty_dict_non, ty_dict_bool, ty_dict_int, ty_dict_str, ty_dict_list, ty_dict_tuple, Bool.not_false, Bool.not_true, List.getElem?_cons_zero, List.getElem?_cons_succ, List.set_cons_zero, List.set_cons_succ, br_t, br_f, wipeE, ↓reduceIte]
  have g0 : 0 < Int.gcd n S := Int.gcd_pos_of_ne_zero_left _ (by omega)
  have g1 : (Int.gcd n S : Int) ≤ n := Int.gcd_le_left _ (by omega)
  refine ⟨_, atI0, _, atI0, n, S, rfl, by omega, by omega, ?_⟩
  simp (config := { maxSteps := 4000000 }) only [dRaise1, dXCall, dXApp, dCaught, dIsE, dXat, dNonE, dRev, dParV, dCallV, dStInt, dStTurn, dStNext, dMixed, dWhileS, dForS, dLcS, dStCells, dStPut, dAppPop, dBegun, dSeq, dCut, dNext, dFrzS, dSet, dSetN, dPar, dParN, dParM, dParNN, dDrop, dRet, dRetN, dIfS, dNever, dBreak, dCont, dAug, dApp, dPutL, dAugL, dIxO, dCBO, dOpO, dOpO2, dTupO, dWhile, dgName, dgNil, dgCons, dgTup, dAsg, dSeqI, dScrI, dRng1, dRng2, dRngN, dZip, dEnum, dFor, dLc, dLc2, dYes, dFrz, dVar, dC, dOp, dOpN, dUn, dChain, dNil, dCons, dTup, dCB, dCBN, dCall, dB, dAnd, dOr, dNot, dAndV, dOrV, dNotV, dIf, dNone, dSome, dSl, dIsi, dIsi2, dListR1, dListR2, dLenScr, dCallS, fLt, fLe, fGt, fGe, fSub, fFdiv, fMod, fPow, fIMul, fInt, fInt0, fCmp, fEq, fAdd, fMul, fRepN, fCatN, fNeg, fIs, fIn, flatD, fIx, fSl, fLen, fAbs, fIntOf, fTwo, fTupOf, fListOf, fIpAdd, DL.seen, ty_int_non, ty_int_bool, ty_int_int, ty_int_str, ty_int_list, ty_int_tuple, ty_bool_non, ty_bool_bool, ty_bool_int, ty_bool_str, ty_bool_list, ty_bool_tuple, ty_str_non, ty_str_bool, ty_str_int, ty_str_str, ty_str_list, ty_str_tuple, ty_list_non, ty_list_bool, ty_list_int, ty_list_str, ty_list_list, ty_list_tuple, ty_tuple_non, ty_tuple_bool, ty_tuple_int, ty_tuple_str, ty_tuple_list, ty_tuple_tuple, ty_dict_non, ty_dict_bool, ty_dict_int, ty_dict_str, ty_dict_list, ty_dict_tuple, Bool.not_false, Bool.not_true, List.getElem?_cons_zero, List.getElem?_cons_succ, List.set_cons_zero, List.set_cons_succ, br_t, br_f, wipeE, ↓reduceIte]
  have d0 : 0 ≤ n / (Int.gcd n S : Int) := Int.ediv_nonneg (by omega) (by omega)
  have d1 : n / (Int.gcd n S : Int) ≤ n := Int.ediv_le_self _ (by omega)
  refine ⟨log_small (by omega) (by omega), rfl, rfl, ⟨by omega, by omega⟩, fun i acc => acc = (iL (phaseL n (meetL n os st n us sv) R S)).take i, take_nil0, by rw [rgD_len]; exact line_big (by omega), fun i x acc hx hw => ?_, fun acc hw => ?_⟩
  · obtain ⟨hi, rfl⟩ := rgD_at hx
    rw [Int.zero_add]
    simp (config := { maxSteps := 4000000 }) only [dRaise1, dXCall, dXApp, dCaught, dIsE, dXat, dNonE, dRev, dParV, dCallV, dStInt, dStTurn, dStNext, dMixed, dWhileS, dForS, dLcS, dStCells, dStPut, dAppPop, dBegun, dSeq, dCut, dNext, dFrzS, dSet, dSetN, dPar, dParN, dParM, dParNN, dDrop, dRet, dRetN, dIfS, dNever, dBreak, dCont, dAug, dApp, dPutL, dAugL, dIxO, dCBO, dOpO, dOpO2, dTupO, dWhile, dgName, dgNil, dgCons, dgTup, dAsg, dSeqI, dScrI, dRng1, dRng2, dRngN, dZip, dEnum, dFor, dLc, dLc2, dYes, dFrz, dVar, dC, dOp, dOpN, dUn, dChain, dNil, dCons, dTup, dCB, dCBN, dCall, dB, dAnd, dOr, dNot, dAndV, dOrV, dNotV, dIf, dNone, dSome, dSl, dIsi, dIsi2, dListR1, dListR2, dLenScr, dCallS, fLt, fLe, fGt, fGe, fSub, fFdiv, fMod, fPow, fIMul, fInt, fInt0, fCmp, fEq, fAdd, fMul, fRepN, fCatN, fNeg, fIs, fIn, flatD, fIx, fSl, fLen, fAbs, fIntOf, fTwo, fTupOf, fListOf, fIpAdd, DL.seen, ty_int_non, ty_int_bool, ty_int_int, ty_int_str, ty_int_list, ty_int_tuple, ty_bool_non, ty_bool_bool, ty_bool_int, ty_bool_str, ty_bool_list, ty_bool_tuple, ty_str_non, ty_str_bool, ty_str_int, ty_str_str, ty_str_list, ty_str_tuple, ty_list_non, ty_list_bool, ty_list_int, ty_list_str, ty_list_list, ty_list_tuple, ty_tuple_non, ty_tuple_bool, ty_tuple_int, ty_tuple_str, ty_tuple_list, ty_tuple_tuple, ty_dict_non, ty_dict_bool, ty_dict_int, ty_dict_str, ty_dict_list, ty_dict_tuple, Bool.not_false, Bool.not_true, List.getElem?_cons_zero, List.getElem?_cons_succ, List.set_cons_zero, List.set_cons_succ, br_t, br_f, wipeE, ↓reduceIte]
    refine ⟨.inl (.inr ⟨by omega, by omega⟩), _, atI0, ?_⟩
    simp (config := { maxSteps := 4000000 }) only [dRaise1, dXCall, dXApp, dCaught, dIsE, dXat, dNonE, dRev, dParV, dCallV, dStInt, dStTurn, dStNext, dMixed, dWhileS, dForS, dLcS, dStCells, dStPut, dAppPop, dBegun, dSeq, dCut, dNext, dFrzS, dSet, dSetN, dPar, dParN, dParM, dParNN, dDrop, dRet, dRetN, dIfS, dNever, dBreak, dCont, dAug, dApp, dPutL, dAugL, dIxO, dCBO, dOpO, dOpO2, dTupO, dWhile, dgName, dgNil, dgCons, dgTup, dAsg, dSeqI, dScrI, dRng1, dRng2, dRngN, dZip, dEnum, dFor, dLc, dLc2, dYes, dFrz, dVar, dC, dOp, dOpN, dUn, dChain, dNil, dCons, dTup, dCB, dCBN, dCall, dB, dAnd, dOr, dNot, dAndV, dOrV, dNotV, dIf, dNone, dSome, dSl, dIsi, dIsi2, dListR1, dListR2, dLenScr, dCallS, fLt, fLe, fGt, fGe, fSub, fFdiv, fMod, fPow, fIMul, fInt, fInt0, fCmp, fEq, fAdd, fMul, fRepN, fCatN, fNeg, fIs, fIn, flatD, fIx, fSl, fLen, fAbs, fIntOf, fTwo, fTupOf, fListOf, fIpAdd, DL.seen, ty_int_non, ty_int_bool, ty_int_int, ty_int_str, ty_int_list, ty_int_tuple, ty_bool_non, ty_bool_bool, ty_bool_int, ty_bool_str, ty_bool_list, ty_bool_tuple, ty_str_non, ty_str_bool, ty_str_int, ty_str_str, ty_str_list, ty_str_tuple, ty_list_non, ty_list_bool, ty_list_int, ty_list_str, ty_list_list, ty_list_tuple, ty_tuple_non, ty_tuple_bool, ty_tuple_int, ty_tuple_str, ty_tuple_list, ty_tuple_tuple, ty_dict_non, ty_dict_bool, ty_dict_int, ty_dict_str, ty_dict_list, ty_dict_tuple, Bool.not_false, Bool.not_true, List.getElem?_cons_zero, List.getElem?_cons_succ, List.set_cons_zero, List.set_cons_succ, br_t, br_f, wipeE, ↓reduceIte]
    have m0 := Int.emod_nonneg ((i : Int) * S) (show n ≠ 0 by omega)
    have m1 := Int.emod_lt_of_pos ((i : Int) * S) (show 0 < n by omega)
    refine ⟨by omega, _, atI_int m0 (getD_at (by rw [meetL_len n1]; omega)), ?_⟩
    simp (config := { maxSteps := 4000000 }) only [dRaise1, dXCall, dXApp, dCaught, dIsE, dXat, dNonE, dRev, dParV, dCallV, dStInt, dStTurn, dStNext, dMixed, dWhileS, dForS, dLcS, dStCells, dStPut, dAppPop, dBegun, dSeq, dCut, dNext, dFrzS, dSet, dSetN, dPar, dParN, dParM, dParNN, dDrop, dRet, dRetN, dIfS, dNever, dBreak, dCont, dAug, dApp, dPutL, dAugL, dIxO, dCBO, dOpO, dOpO2, dTupO, dWhile, dgName, dgNil, dgCons, dgTup, dAsg, dSeqI, dScrI, dRng1, dRng2, dRngN, dZip, dEnum, dFor, dLc, dLc2, dYes, dFrz, dVar, dC, dOp, dOpN, dUn, dChain, dNil, dCons, dTup, dCB, dCBN, dCall, dB, dAnd, dOr, dNot, dAndV, dOrV, dNotV, dIf, dNone, dSome, dSl, dIsi, dIsi2, dListR1, dListR2, dLenScr, dCallS, fLt, fLe, fGt, fGe, fSub, fFdiv, fMod, fPow, fIMul, fInt, fInt0, fCmp, fEq, fAdd, fMul, fRepN, fCatN, fNeg, fIs, fIn, flatD, fIx, fSl, fLen, fAbs, fIntOf, fTwo, fTupOf, fListOf, fIpAdd, DL.seen, ty_int_non, ty_int_bool, ty_int_int, ty_int_str, ty_int_list, ty_int_tuple, ty_bool_non, ty_bool_bool, ty_bool_int, ty_bool_str, ty_bool_list, ty_bool_tuple, ty_str_non, ty_str_bool, ty_str_int, ty_str_str, ty_str_list, ty_str_tuple, ty_list_non, ty_list_bool, ty_list_int, ty_list_str, ty_list_list, ty_list_tuple, ty_tuple_non, ty_tuple_bool, ty_tuple_int, ty_tuple_str, ty_tuple_list, ty_tuple_tuple, ty_dict_non, ty_dict_bool, ty_dict_int, ty_dict_str, ty_dict_list, ty_dict_tuple, Bool.not_false, Bool.not_true, List.getElem?_cons_zero, List.getElem?_cons_succ, List.set_cons_zero, List.set_cons_succ, br_t, br_f, wipeE, ↓reduceIte]
    refine ⟨.inl (.inl ⟨by omega, by omega⟩), ?_⟩
    rw [hw]
    refine take_push ?_
    unfold phaseL
    rw [iL, List.map_map, List.getElem?_map, List.getElem?_range hi]
    rfl
  · rw [hw, take_all (by rw [rgD_len, iL_len, phaseL, List.length_map, List.length_range])]
    exact h
abbrev sc_phases : Scope := defScope s_phases
theorem scp_phases : FnScope N_phases ["one", "other", "rounds", "step"] sc_phases := ⟨rfl, rfl, rfl, by decide +kernel, rfl, by decide +kernel, by decide +kernel⟩
theorem ok_phases {P : Program} {w : World} {K : PySem.W.Frag} {mg : Str → Option Value} {base : Heap} (h : Hd K mg) (c_need_two : Fn P w K mg base 4 "need_two" (spD K phi_need_two)) (c_is_within : Fn P w K mg base 2 "is_within" (spD K phi_is_within)) (c_shared : Fn P w K mg base 1 "shared" (spD K phi_shared)) (c_meetings_of : Fn P w K mg base 2 "meetings_of" (spD K phi_meetings_of)) : Fn P w K mg base 5 "phases" (spD K phi_phases) := by
  obtain ⟨f, fd, F, hm⟩ := h.f_phases
  have sc := scp_phases
  exact Fn.mk' (fn_pure F scp_phases len_phases fun cdv A outer s H E hr => ⟨_, d_phases, (q_cons (s_drop (pd_call c_need_two hr (pa_c (pd_v 0) (pa_c (pd_v 1) pa_n))))
  (q_cons (s_if (pt_cmp (c_ne hr) (pd_ix (pd_v 0) pd_i) (pd_ix (pd_v 1) pd_i))
  (q_one s_never)
  q_nil)
  (q_cons (s_if (pt_n (pt_e (pd_call c_is_within hr (pa_c (pd_v 2) (pa_c pd_i (pa_c (pd_g h.g_MOST_ROUNDS) pa_n))))))
  (q_one s_never)
  q_nil)
  (q_cons (s_if (pt_n (pt_e (pd_call c_is_within hr (pa_c (pd_v 3) (pa_c pd_i (pa_c (pd_sub (pd_ix (pd_v 0) pd_i) pd_i) pa_n))))))
  (q_one s_never)
  q_nil)
  (q_cons (s_asg (pd_tup (pa_c (pd_call c_meetings_of hr (pa_c (pd_v 0) (pa_c (pd_v 1) pa_n))) (pa_c (pd_fdiv (pd_ix (pd_v 0) pd_i) (pd_call c_shared hr (pa_c (pd_ix (pd_v 0) pd_i) (pa_c (pd_v 3) pa_n)))) pa_n))) (g_tup 2 (gs_cons (g_name 4 sc.nd) (gs_cons (g_name 5 sc.nd) gs_nil))))
  (q_one (s_ret (pd_T cs_tuple call_tuple_of h.b_tuple boot_tuple (pa_c (pd_f (n_of (l_lc [("block", 6)] sc.nd (i_r1 h.b_range (pa_c (pd_v 5) pa_n)) (blkOk_by (own := [("block", 6)]) (N := N_phases) (sc := sc_phases) (by decide +kernel)) (fun _ _ _ _ _ => (g_name 6 sc.nd)) (fun _ _ _ _ _ => t_yes) (fun _ _ _ _ _ => (pd_mul (pd_v 2) (pd_ix (pd_v 4) (pd_mod (pd_mul (pd_v 6) (pd_v 3)) (pd_ix (pd_v 0) pd_i)))))))) pa_n))))))))), rd_phases⟩) hm F.kp (F.bindsN fun _ _ _ _ _ _ us hl => match us, hl with | [_, _, _, _], _ => rfl)
/-! the law's own -/
abbrev phi_law_common : Ph := phi_shared
theorem len_law_common : ∀ ds Q, phi_law_common ds Q → ds.length = 2 := len_shared
/-! _law_common(one, other): one=0 other=1 -/
abbrev N_law_common : List Str := ["one", "other"]
def d_law_common : DS := (dSeq (dWhile (dB (dOp (fEq true) (dVar 1) (dC (.int 0))))
  (dPar 0 1 (dVar 1) (dOp fMod (dCB fIntOf (dCons (dVar 0) dNil)) (dVar 1))))
  (dRet (dVar 0)))
theorem rd_law_common : ∀ ds Q, phi_law_common ds Q → d_law_common { nx := fun _ => Q .none, rt := fun x _ => Q x } (startE N_law_common.length ds) := by
  rintro ds Q ⟨a, b, rfl, ha, hb, h⟩
  show d_law_common _ [C.d (.int a), C.d (.int b)]
  simp (config := { maxSteps := 4000000 }) only [d_law_common, dRaise1, dXCall, dXApp, dCaught, dIsE, dXat, dNonE, dRev, dParV, dCallV, dStInt, dStTurn, dStNext, dMixed, dWhileS, dForS, dLcS, dStCells, dStPut, dAppPop, dBegun, dSeq, dCut, dNext, dFrzS, dSet, dSetN, dPar, dParN, dParM, dParNN, dDrop, dRet, dRetN, dIfS, dNever, dBreak, dCont, dAug, dApp, dPutL, dAugL, dIxO, dCBO, dOpO, dOpO2, dTupO, dWhile, dgName, dgNil, dgCons, dgTup, dAsg, dSeqI, dScrI, dRng1, dRng2, dRngN, dZip, dEnum, dFor, dLc, dLc2, dYes, dFrz, dVar, dC, dOp, dOpN, dUn, dChain, dNil, dCons, dTup, dCB, dCBN, dCall, dB, dAnd, dOr, dNot, dAndV, dOrV, dNotV, dIf, dNone, dSome, dSl, dIsi, dIsi2, dListR1, dListR2, dLenScr, dCallS, fLt, fLe, fGt, fGe, fSub, fFdiv, fMod, fPow, fIMul, fInt, fInt0, fCmp, fEq, fAdd, fMul, fRepN, fCatN, fNeg, fIs, fIn, flatD, fIx, fSl, fLen, fAbs, fIntOf, fTwo, fTupOf, fListOf, fIpAdd, DL.seen, ty_int_non, ty_int_bool, ty_int_int, ty_int_str, ty_int_list, ty_int_tuple, ty_bool_non, ty_bool_bool, ty_bool_int, ty_bool_str, ty_bool_list, ty_bool_tuple, ty_str_non, ty_str_bool, ty_str_int, ty_str_str, ty_str_list, ty_str_tuple, ty_list_non, ty_list_bool, ty_list_int, ty_list_str, ty_list_list, ty_list_tuple, ty_tuple_non, ty_tuple_bool, ty_tuple_int, ty_tuple_str, ty_tuple_list, ty_tuple_tuple, ty_dict_non, ty_dict_bool, ty_dict_int, ty_dict_str, ty_dict_list, ty_dict_tuple, Bool.not_false, Bool.not_true, List.getElem?_cons_zero, List.getElem?_cons_succ, List.set_cons_zero, List.set_cons_succ, br_t, br_f, wipeE, ↓reduceIte]
  refine ⟨fun m E => ∃ x y : Int, 0 ≤ x ∧ 0 ≤ y ∧ m = y.toNat ∧ Int.gcd x y = Int.gcd a b ∧ E = [C.d (.int x), C.d (.int y)], ⟨_, a, b, ha, hb, rfl, rfl, rfl⟩, ?_⟩
  rintro m E ⟨x, y, hx, hy, rfl, hg, rfl⟩
  simp (config := { maxSteps := 4000000 }) only [dRaise1, dXCall, dXApp, dCaught, dIsE, dXat, dNonE, dRev, dParV, dCallV, dStInt, dStTurn, dStNext, dMixed, dWhileS, dForS, dLcS, dStCells, dStPut, dAppPop, dBegun, dSeq, dCut, dNext, dFrzS, dSet, dSetN, dPar, dParN, dParM, dParNN, dDrop, dRet, dRetN, dIfS, dNever, dBreak, dCont, dAug, dApp, dPutL, dAugL, dIxO, dCBO, dOpO, dOpO2, dTupO, dWhile, dgName, dgNil, dgCons, dgTup, dAsg, dSeqI, dScrI, dRng1, dRng2, dRngN, dZip, dEnum, dFor, dLc, dLc2, dYes, dFrz, dVar, dC, dOp, dOpN, dUn, dChain, dNil, dCons, dTup, dCB, dCBN, dCall, dB, dAnd, dOr, dNot, dAndV, dOrV, dNotV, dIf, dNone, dSome, dSl, dIsi, dIsi2, dListR1, dListR2, dLenScr, dCallS, fLt, fLe, fGt, fGe, fSub, fFdiv, fMod, fPow, fIMul, fInt, fInt0, fCmp, fEq, fAdd, fMul, fRepN, fCatN, fNeg, fIs, fIn, flatD, fIx, fSl, fLen, fAbs, fIntOf, fTwo, fTupOf, fListOf, fIpAdd, DL.seen, ty_int_non, ty_int_bool, ty_int_int, ty_int_str, ty_int_list, ty_int_tuple, ty_bool_non, ty_bool_bool, ty_bool_int, ty_bool_str, ty_bool_list, ty_bool_tuple, ty_str_non, ty_str_bool, ty_str_int, ty_str_str, ty_str_list, ty_str_tuple, ty_list_non, ty_list_bool, ty_list_int, ty_list_str, ty_list_list, ty_list_tuple, ty_tuple_non, ty_tuple_bool, ty_tuple_int, ty_tuple_str, ty_tuple_list, ty_tuple_tuple, ty_dict_non, ty_dict_bool, ty_dict_int, ty_dict_str, ty_dict_list, ty_dict_tuple, Bool.not_false, Bool.not_true, List.getElem?_cons_zero, List.getElem?_cons_succ, List.set_cons_zero, List.set_cons_succ, br_t, br_f, wipeE, ↓reduceIte]
  refine ⟨fun e => ?_, fun e => ?_⟩
  · have y0 : y ≠ 0 := by simpa using e
    have hm := Int.emod_nonneg x y0
    have hl := Int.emod_lt_of_pos x (show 0 < y by omega)
    exact ⟨by omega, (x % y).toNat, by omega, y, x % y, hy, hm, rfl, sub_gcd hg, rfl⟩
  · have y0 : y = 0 := by simpa using e
    subst y0
    have e2 : (x : Int) = Int.gcd a b := by rw [← hg, Int.gcd_zero]; omega
    rw [e2]
    exact h
abbrev sc_law_common : Scope := defScope s_law_common
theorem scp_law_common : FnScope N_law_common ["one", "other"] sc_law_common := ⟨rfl, rfl, rfl, by decide +kernel, rfl, by decide +kernel, by decide +kernel⟩
theorem ok_law_common {P : Program} {w : World} {K : PySem.W.Frag} {mg : Str → Option Value} {base : Heap} (h : Hd K mg) : Fn P w K mg base 1 "_law_common" (spD K phi_law_common) := by
  obtain ⟨f, fd, F, hm⟩ := h.f_law_common
  have sc := scp_law_common
  exact Fn.mk' (fn_pure F scp_law_common len_law_common fun cdv A outer s H E hr => ⟨_, d_law_common, (q_cons (s_while (pt_cmp (c_ne hr) (pd_v 1) pd_i)
  (q_one (s_par 0 1 sc.nd (pd_v 1) (pd_mod (pd_T cs_int call_int1 h.b_int boot_int (pa_c (pd_v 0) pa_n)) (pd_v 1)))))
  (q_one (s_ret (pd_v 0)))), rd_law_common⟩) hm F.kp (F.bindsN fun _ _ _ _ _ _ us hl => match us, hl with | [_, _], _ => rfl)
def agreeP (D : Int) (os : List Int) (st : Int) (us : List Int) (sv : Int) : List Int := os.flatMap fun f => us.map fun s => (f + st - s - sv) % D
def phi_law_agreed : Ph := fun ds P => ∃ n os st m us sv D, ds = [tT n os st, tT m us sv, .int D] ∧ 1 ≤ D ∧ D ≤ 240 ∧ P (.list (iL (hist D.toNat (agreeP D os st us sv))))
theorem len_law_agreed : ∀ ds Q, phi_law_agreed ds Q → ds.length = 3 := by rintro ds Q ⟨n, os, st, m, us, sv, D, rfl, _⟩; rfl
/-! _law_agreed(one, other, by): one=0 other=1 by=2 found=3 first=4 second=5 -/
abbrev N_law_agreed : List Str := ["one", "other", "by", "found", "first", "second"]
def d_law_agreed : DS := (dSeq (dSetN 3 (dOpN fRepN (dFrz (dCons (dC (.int 0)) dNil)) (dVar 2)))
  (dSeq (dFor (dSeqI (dOp fIx (dVar 0) (dC (.int 1)))) (dgName 4)
  (dFor (dSeqI (dOp fIx (dVar 1) (dC (.int 1)))) (dgName 5)
  (dAugL 3 (dOp fMod (dCB fIntOf (dCons (dOp fSub (dOp fSub (dOp fAdd (dVar 4) (dOp fIx (dVar 0) (dC (.int 2)))) (dVar 5)) (dOp fIx (dVar 1) (dC (.int 2)))) dNil)) (dVar 2)) fIpAdd (dC (.int 1)))))
  (dFrzS 3 (dRet (dVar 3)))))
theorem rd_law_agreed : ∀ ds Q, phi_law_agreed ds Q → d_law_agreed { nx := fun _ => Q .none, rt := fun x _ => Q x } (startE N_law_agreed.length ds) := by
  rintro ds Q ⟨n, os, st, m, us, sv, D, rfl, d1, d2, h⟩
  show d_law_agreed _ [C.d (tT n os st), C.d (tT m us sv), C.d (.int D), .no, .no, .no]
  simp (config := { maxSteps := 4000000 }) only [d_law_agreed, rep0, dRaise1, dXCall, dXApp, dCaught, dIsE, dXat, dNonE, dRev, dParV, dCallV, dStInt, dStTurn, dStNext, dMixed, dWhileS, dForS, dLcS, dStCells, dStPut, dAppPop, dBegun, dSeq, dCut, dNext, dFrzS, dSet, dSetN, dPar, dParN, dParM, dParNN, dDrop, dRet, dRetN, dIfS, dNever, dBreak, dCont, dAug, dApp, dPutL, dAugL, dIxO, dCBO, dOpO, dOpO2, dTupO, dWhile, dgName, dgNil, dgCons, dgTup, dAsg, dSeqI, dScrI, dRng1, dRng2, dRngN, dZip, dEnum, dFor, dLc, dLc2, dYes, dFrz, dVar, dC, dOp, dOpN, dUn, dChain, dNil, dCons, dTup, dCB, dCBN, dCall, dB, dAnd, dOr, dNot, dAndV, dOrV, dNotV, dIf, dNone, dSome, dSl, dIsi, dIsi2, dListR1, dListR2, dLenScr, dCallS, fLt, fLe, fGt, fGe, fSub, fFdiv, fMod, fPow, fIMul, fInt, fInt0, fCmp, fEq, fAdd, fMul, fRepN, fCatN, fNeg, fIs, fIn, flatD, fIx, fSl, fLen, fAbs, fIntOf, fTwo, fTupOf, fListOf, fIpAdd, DL.seen, ty_int_non, ty_int_bool, ty_int_int, ty_int_str, ty_int_list, ty_int_tuple, ty_bool_non, ty_bool_bool, ty_bool_int, ty_bool_str, ty_bool_list, ty_bool_tuple, ty_str_non, ty_str_bool, ty_str_int, ty_str_str, ty_str_list, ty_str_tuple, ty_list_non, ty_list_bool, ty_list_int, ty_list_str, ty_list_list, ty_list_tuple, ty_tuple_non, ty_tuple_bool, ty_tuple_int, ty_tuple_str, ty_tuple_list, ty_tuple_tuple, ty_dict_non, ty_dict_bool, ty_dict_int, ty_dict_str, ty_dict_list, ty_dict_tuple, Bool.not_false, Bool.not_true, List.getElem?_cons_zero, List.getElem?_cons_succ, List.set_cons_zero, List.set_cons_succ, br_t, br_f, wipeE, ↓reduceIte]
  refine ⟨⟨by omega, by omega, ?_⟩, ?_⟩
  · rw [sizeLine_eq]; simp; omega
  rw [← hist_nil]
  refine ⟨_, atI1, ?_⟩
  simp (config := { maxSteps := 4000000 }) only [dRaise1, dXCall, dXApp, dCaught, dIsE, dXat, dNonE, dRev, dParV, dCallV, dStInt, dStTurn, dStNext, dMixed, dWhileS, dForS, dLcS, dStCells, dStPut, dAppPop, dBegun, dSeq, dCut, dNext, dFrzS, dSet, dSetN, dPar, dParN, dParM, dParNN, dDrop, dRet, dRetN, dIfS, dNever, dBreak, dCont, dAug, dApp, dPutL, dAugL, dIxO, dCBO, dOpO, dOpO2, dTupO, dWhile, dgName, dgNil, dgCons, dgTup, dAsg, dSeqI, dScrI, dRng1, dRng2, dRngN, dZip, dEnum, dFor, dLc, dLc2, dYes, dFrz, dVar, dC, dOp, dOpN, dUn, dChain, dNil, dCons, dTup, dCB, dCBN, dCall, dB, dAnd, dOr, dNot, dAndV, dOrV, dNotV, dIf, dNone, dSome, dSl, dIsi, dIsi2, dListR1, dListR2, dLenScr, dCallS, fLt, fLe, fGt, fGe, fSub, fFdiv, fMod, fPow, fIMul, fInt, fInt0, fCmp, fEq, fAdd, fMul, fRepN, fCatN, fNeg, fIs, fIn, flatD, fIx, fSl, fLen, fAbs, fIntOf, fTwo, fTupOf, fListOf, fIpAdd, DL.seen, ty_int_non, ty_int_bool, ty_int_int, ty_int_str, ty_int_list, ty_int_tuple, ty_bool_non, ty_bool_bool, ty_bool_int, ty_bool_str, ty_bool_list, ty_bool_tuple, ty_str_non, ty_str_bool, ty_str_int, ty_str_str, ty_str_list, ty_str_tuple, ty_list_non, ty_list_bool, ty_list_int, ty_list_str, ty_list_list, ty_list_tuple, ty_tuple_non, ty_tuple_bool, ty_tuple_int, ty_tuple_str, ty_tuple_list, ty_tuple_tuple, ty_dict_non, ty_dict_bool, ty_dict_int, ty_dict_str, ty_dict_list, ty_dict_tuple, Bool.not_false, Bool.not_true, List.getElem?_cons_zero, List.getElem?_cons_succ, List.set_cons_zero, List.set_cons_succ, br_t, br_f, wipeE, ↓reduceIte]
  refine ⟨fun i E => ∃ c4 c5, E = [C.d (tT n os st), C.d (tT m us sv), C.d (.int D), C.l (iL (hist D.toNat (agreeP D (os.take i) st us sv))), c4, c5], ⟨_, _, rfl⟩, ?_, ?_⟩
  · rintro i x E hx ⟨c4, c5, rfl⟩
    obtain ⟨a, ha, rfl⟩ := iL_at hx
    simp (config := { maxSteps := 4000000 }) only [dRaise1, dXCall, dXApp, dCaught, dIsE, dXat, dNonE, dRev, dParV, dCallV, dStInt, dStTurn, dStNext, dMixed, dWhileS, dForS, dLcS, dStCells, dStPut, dAppPop, dBegun, dSeq, dCut, dNext, dFrzS, dSet, dSetN, dPar, dParN, dParM, dParNN, dDrop, dRet, dRetN, dIfS, dNever, dBreak, dCont, dAug, dApp, dPutL, dAugL, dIxO, dCBO, dOpO, dOpO2, dTupO, dWhile, dgName, dgNil, dgCons, dgTup, dAsg, dSeqI, dScrI, dRng1, dRng2, dRngN, dZip, dEnum, dFor, dLc, dLc2, dYes, dFrz, dVar, dC, dOp, dOpN, dUn, dChain, dNil, dCons, dTup, dCB, dCBN, dCall, dB, dAnd, dOr, dNot, dAndV, dOrV, dNotV, dIf, dNone, dSome, dSl, dIsi, dIsi2, dListR1, dListR2, dLenScr, dCallS, fLt, fLe, fGt, fGe, fSub, fFdiv, fMod, fPow, fIMul, fInt, fInt0, fCmp, fEq, fAdd, fMul, fRepN, fCatN, fNeg, fIs, fIn, flatD, fIx, fSl, fLen, fAbs, fIntOf, fTwo, fTupOf, fListOf, fIpAdd, DL.seen, ty_int_non, ty_int_bool, ty_int_int, ty_int_str, ty_int_list, ty_int_tuple, ty_bool_non, ty_bool_bool, ty_bool_int, ty_bool_str, ty_bool_list, ty_bool_tuple, ty_str_non, ty_str_bool, ty_str_int, ty_str_str, ty_str_list, ty_str_tuple, ty_list_non, ty_list_bool, ty_list_int, ty_list_str, ty_list_list, ty_list_tuple, ty_tuple_non, ty_tuple_bool, ty_tuple_int, ty_tuple_str, ty_tuple_list, ty_tuple_tuple, ty_dict_non, ty_dict_bool, ty_dict_int, ty_dict_str, ty_dict_list, ty_dict_tuple, Bool.not_false, Bool.not_true, List.getElem?_cons_zero, List.getElem?_cons_succ, List.set_cons_zero, List.set_cons_succ, br_t, br_f, wipeE, ↓reduceIte]
    refine ⟨_, atI1, ?_⟩
    simp (config := { maxSteps := 4000000 }) only [dRaise1, dXCall, dXApp, dCaught, dIsE, dXat, dNonE, dRev, dParV, dCallV, dStInt, dStTurn, dStNext, dMixed, dWhileS, dForS, dLcS, dStCells, dStPut, dAppPop, dBegun, dSeq, dCut, dNext, dFrzS, dSet, dSetN, dPar, dParN, dParM, dParNN, dDrop, dRet, dRetN, dIfS, dNever, dBreak, dCont, dAug, dApp, dPutL, dAugL, dIxO, dCBO, dOpO, dOpO2, dTupO, dWhile, dgName, dgNil, dgCons, dgTup, dAsg, dSeqI, dScrI, dRng1, dRng2, dRngN, dZip, dEnum, dFor, dLc, dLc2, dYes, dFrz, dVar, dC, dOp, dOpN, dUn, dChain, dNil, dCons, dTup, dCB, dCBN, dCall, dB, dAnd, dOr, dNot, dAndV, dOrV, dNotV, dIf, dNone, dSome, dSl, dIsi, dIsi2, dListR1, dListR2, dLenScr, dCallS, fLt, fLe, fGt, fGe, fSub, fFdiv, fMod, fPow, fIMul, fInt, fInt0, fCmp, fEq, fAdd, fMul, fRepN, fCatN, fNeg, fIs, fIn, flatD, fIx, fSl, fLen, fAbs, fIntOf, fTwo, fTupOf, fListOf, fIpAdd, DL.seen, ty_int_non, ty_int_bool, ty_int_int, ty_int_str, ty_int_list, ty_int_tuple, ty_bool_non, ty_bool_bool, ty_bool_int, ty_bool_str, ty_bool_list, ty_bool_tuple, ty_str_non, ty_str_bool, ty_str_int, ty_str_str, ty_str_list, ty_str_tuple, ty_list_non, ty_list_bool, ty_list_int, ty_list_str, ty_list_list, ty_list_tuple, ty_tuple_non, ty_tuple_bool, ty_tuple_int, ty_tuple_str, ty_tuple_list, ty_tuple_tuple, ty_dict_non, ty_dict_bool, ty_dict_int, ty_dict_str, ty_dict_list, ty_dict_tuple, Bool.not_false, Bool.not_true, List.getElem?_cons_zero, List.getElem?_cons_succ, List.set_cons_zero, List.set_cons_succ, br_t, br_f, wipeE, ↓reduceIte]
    refine ⟨fun j E => ∃ c5, E = [C.d (tT n os st), C.d (tT m us sv), C.d (.int D), C.l (iL (hist D.toNat (agreeP D (os.take i) st us sv ++ (us.take j).map fun s => (a + st - s - sv) % D))), C.d (.int a), c5], ⟨_, by rw [List.take_zero, List.map_nil, List.append_nil]⟩, ?_, ?_⟩
    · rintro j y E hy ⟨c5, rfl⟩
      obtain ⟨b, hb, rfl⟩ := iL_at hy
      simp (config := { maxSteps := 4000000 }) only [dRaise1, dXCall, dXApp, dCaught, dIsE, dXat, dNonE, dRev, dParV, dCallV, dStInt, dStTurn, dStNext, dMixed, dWhileS, dForS, dLcS, dStCells, dStPut, dAppPop, dBegun, dSeq, dCut, dNext, dFrzS, dSet, dSetN, dPar, dParN, dParM, dParNN, dDrop, dRet, dRetN, dIfS, dNever, dBreak, dCont, dAug, dApp, dPutL, dAugL, dIxO, dCBO, dOpO, dOpO2, dTupO, dWhile, dgName, dgNil, dgCons, dgTup, dAsg, dSeqI, dScrI, dRng1, dRng2, dRngN, dZip, dEnum, dFor, dLc, dLc2, dYes, dFrz, dVar, dC, dOp, dOpN, dUn, dChain, dNil, dCons, dTup, dCB, dCBN, dCall, dB, dAnd, dOr, dNot, dAndV, dOrV, dNotV, dIf, dNone, dSome, dSl, dIsi, dIsi2, dListR1, dListR2, dLenScr, dCallS, fLt, fLe, fGt, fGe, fSub, fFdiv, fMod, fPow, fIMul, fInt, fInt0, fCmp, fEq, fAdd, fMul, fRepN, fCatN, fNeg, fIs, fIn, flatD, fIx, fSl, fLen, fAbs, fIntOf, fTwo, fTupOf, fListOf, fIpAdd, DL.seen, ty_int_non, ty_int_bool, ty_int_int, ty_int_str, ty_int_list, ty_int_tuple, ty_bool_non, ty_bool_bool, ty_bool_int, ty_bool_str, ty_bool_list, ty_bool_tuple, ty_str_non, ty_str_bool, ty_str_int, ty_str_str, ty_str_list, ty_str_tuple, ty_list_non, ty_list_bool, ty_list_int, ty_list_str, ty_list_list, ty_list_tuple, ty_tuple_non, ty_tuple_bool, ty_tuple_int, ty_tuple_str, ty_tuple_list, ty_tuple_tuple, ty_dict_non, ty_dict_bool, ty_dict_int, ty_dict_str, ty_dict_list, ty_dict_tuple, Bool.not_false, Bool.not_true, List.getElem?_cons_zero, List.getElem?_cons_succ, List.set_cons_zero, List.set_cons_succ, br_t, br_f, wipeE, ↓reduceIte]
      refine ⟨_, atI2, ?_⟩
      simp (config := { maxSteps := 4000000 }) only [dRaise1, dXCall, dXApp, dCaught, dIsE, dXat, dNonE, dRev, dParV, dCallV, dStInt, dStTurn, dStNext, dMixed, dWhileS, dForS, dLcS, dStCells, dStPut, dAppPop, dBegun, dSeq, dCut, dNext, dFrzS, dSet, dSetN, dPar, dParN, dParM, dParNN, dDrop, dRet, dRetN, dIfS, dNever, dBreak, dCont, dAug, dApp, dPutL, dAugL, dIxO, dCBO, dOpO, dOpO2, dTupO, dWhile, dgName, dgNil, dgCons, dgTup, dAsg, dSeqI, dScrI, dRng1, dRng2, dRngN, dZip, dEnum, dFor, dLc, dLc2, dYes, dFrz, dVar, dC, dOp, dOpN, dUn, dChain, dNil, dCons, dTup, dCB, dCBN, dCall, dB, dAnd, dOr, dNot, dAndV, dOrV, dNotV, dIf, dNone, dSome, dSl, dIsi, dIsi2, dListR1, dListR2, dLenScr, dCallS, fLt, fLe, fGt, fGe, fSub, fFdiv, fMod, fPow, fIMul, fInt, fInt0, fCmp, fEq, fAdd, fMul, fRepN, fCatN, fNeg, fIs, fIn, flatD, fIx, fSl, fLen, fAbs, fIntOf, fTwo, fTupOf, fListOf, fIpAdd, DL.seen, ty_int_non, ty_int_bool, ty_int_int, ty_int_str, ty_int_list, ty_int_tuple, ty_bool_non, ty_bool_bool, ty_bool_int, ty_bool_str, ty_bool_list, ty_bool_tuple, ty_str_non, ty_str_bool, ty_str_int, ty_str_str, ty_str_list, ty_str_tuple, ty_list_non, ty_list_bool, ty_list_int, ty_list_str, ty_list_list, ty_list_tuple, ty_tuple_non, ty_tuple_bool, ty_tuple_int, ty_tuple_str, ty_tuple_list, ty_tuple_tuple, ty_dict_non, ty_dict_bool, ty_dict_int, ty_dict_str, ty_dict_list, ty_dict_tuple, Bool.not_false, Bool.not_true, List.getElem?_cons_zero, List.getElem?_cons_succ, List.set_cons_zero, List.set_cons_succ, br_t, br_f, wipeE, ↓reduceIte]
      refine ⟨_, atI2, ?_⟩
      simp (config := { maxSteps := 4000000 }) only [dRaise1, dXCall, dXApp, dCaught, dIsE, dXat, dNonE, dRev, dParV, dCallV, dStInt, dStTurn, dStNext, dMixed, dWhileS, dForS, dLcS, dStCells, dStPut, dAppPop, dBegun, dSeq, dCut, dNext, dFrzS, dSet, dSetN, dPar, dParN, dParM, dParNN, dDrop, dRet, dRetN, dIfS, dNever, dBreak, dCont, dAug, dApp, dPutL, dAugL, dIxO, dCBO, dOpO, dOpO2, dTupO, dWhile, dgName, dgNil, dgCons, dgTup, dAsg, dSeqI, dScrI, dRng1, dRng2, dRngN, dZip, dEnum, dFor, dLc, dLc2, dYes, dFrz, dVar, dC, dOp, dOpN, dUn, dChain, dNil, dCons, dTup, dCB, dCBN, dCall, dB, dAnd, dOr, dNot, dAndV, dOrV, dNotV, dIf, dNone, dSome, dSl, dIsi, dIsi2, dListR1, dListR2, dLenScr, dCallS, fLt, fLe, fGt, fGe, fSub, fFdiv, fMod, fPow, fIMul, fInt, fInt0, fCmp, fEq, fAdd, fMul, fRepN, fCatN, fNeg, fIs, fIn, flatD, fIx, fSl, fLen, fAbs, fIntOf, fTwo, fTupOf, fListOf, fIpAdd, DL.seen, ty_int_non, ty_int_bool, ty_int_int, ty_int_str, ty_int_list, ty_int_tuple, ty_bool_non, ty_bool_bool, ty_bool_int, ty_bool_str, ty_bool_list, ty_bool_tuple, ty_str_non, ty_str_bool, ty_str_int, ty_str_str, ty_str_list, ty_str_tuple, ty_list_non, ty_list_bool, ty_list_int, ty_list_str, ty_list_list, ty_list_tuple, ty_tuple_non, ty_tuple_bool, ty_tuple_int, ty_tuple_str, ty_tuple_list, ty_tuple_tuple, ty_dict_non, ty_dict_bool, ty_dict_int, ty_dict_str, ty_dict_list, ty_dict_tuple, Bool.not_false, Bool.not_true, List.getElem?_cons_zero, List.getElem?_cons_succ, List.set_cons_zero, List.set_cons_succ, br_t, br_f, wipeE, ↓reduceIte]
      refine ⟨by omega, ?_⟩
      have m0 := Int.emod_nonneg (a + st - b - sv) (show D ≠ 0 by omega)
      have m1 := Int.emod_lt_of_pos (a + st - b - sv) (show 0 < D by omega)
      refine ⟨((a + st - b - sv) % D).toNat, _, ixN_in m0 (by rw [iL_len, hist_len]; omega), by rw [List.getElem?_map, hist_get (by omega)]; rfl, ?_⟩
      simp (config := { maxSteps := 4000000 }) only [dRaise1, dXCall, dXApp, dCaught, dIsE, dXat, dNonE, dRev, dParV, dCallV, dStInt, dStTurn, dStNext, dMixed, dWhileS, dForS, dLcS, dStCells, dStPut, dAppPop, dBegun, dSeq, dCut, dNext, dFrzS, dSet, dSetN, dPar, dParN, dParM, dParNN, dDrop, dRet, dRetN, dIfS, dNever, dBreak, dCont, dAug, dApp, dPutL, dAugL, dIxO, dCBO, dOpO, dOpO2, dTupO, dWhile, dgName, dgNil, dgCons, dgTup, dAsg, dSeqI, dScrI, dRng1, dRng2, dRngN, dZip, dEnum, dFor, dLc, dLc2, dYes, dFrz, dVar, dC, dOp, dOpN, dUn, dChain, dNil, dCons, dTup, dCB, dCBN, dCall, dB, dAnd, dOr, dNot, dAndV, dOrV, dNotV, dIf, dNone, dSome, dSl, dIsi, dIsi2, dListR1, dListR2, dLenScr, dCallS, fLt, fLe, fGt, fGe, fSub, fFdiv, fMod, fPow, fIMul, fInt, fInt0, fCmp, fEq, fAdd, fMul, fRepN, fCatN, fNeg, fIs, fIn, flatD, fIx, fSl, fLen, fAbs, fIntOf, fTwo, fTupOf, fListOf, fIpAdd, DL.seen, ty_int_non, ty_int_bool, ty_int_int, ty_int_str, ty_int_list, ty_int_tuple, ty_bool_non, ty_bool_bool, ty_bool_int, ty_bool_str, ty_bool_list, ty_bool_tuple, ty_str_non, ty_str_bool, ty_str_int, ty_str_str, ty_str_list, ty_str_tuple, ty_list_non, ty_list_bool, ty_list_int, ty_list_str, ty_list_list, ty_list_tuple, ty_tuple_non, ty_tuple_bool, ty_tuple_int, ty_tuple_str, ty_tuple_list, ty_tuple_tuple, ty_dict_non, ty_dict_bool, ty_dict_int, ty_dict_str, ty_dict_list, ty_dict_tuple, Bool.not_false, Bool.not_true, List.getElem?_cons_zero, List.getElem?_cons_succ, List.set_cons_zero, List.set_cons_succ, br_t, br_f, wipeE, ↓reduceIte]
      refine ⟨C.d (.int b), ?_⟩
      rw [iL_set, hist_push m0 (by omega), map_take hb, List.append_assoc]
      rw [Int.toNat_of_nonneg m0]
    · rintro E ⟨c5, rfl⟩
      refine ⟨C.d (.int a), c5, ?_⟩
      rw [iL_len, List.take_length]
      have e : agreeP D (os.take (i + 1)) st us sv = agreeP D (os.take i) st us sv ++ us.map fun s => (a + st - s - sv) % D := flatMap_take ha
      rw [e]
  · rintro E ⟨c4, c5, rfl⟩
    simp (config := { maxSteps := 4000000 }) only [dRaise1, dXCall, dXApp, dCaught, dIsE, dXat, dNonE, dRev, dParV, dCallV, dStInt, dStTurn, dStNext, dMixed, dWhileS, dForS, dLcS, dStCells, dStPut, dAppPop, dBegun, dSeq, dCut, dNext, dFrzS, dSet, dSetN, dPar, dParN, dParM, dParNN, dDrop, dRet, dRetN, dIfS, dNever, dBreak, dCont, dAug, dApp, dPutL, dAugL, dIxO, dCBO, dOpO, dOpO2, dTupO, dWhile, dgName, dgNil, dgCons, dgTup, dAsg, dSeqI, dScrI, dRng1, dRng2, dRngN, dZip, dEnum, dFor, dLc, dLc2, dYes, dFrz, dVar, dC, dOp, dOpN, dUn, dChain, dNil, dCons, dTup, dCB, dCBN, dCall, dB, dAnd, dOr, dNot, dAndV, dOrV, dNotV, dIf, dNone, dSome, dSl, dIsi, dIsi2, dListR1, dListR2, dLenScr, dCallS, fLt, fLe, fGt, fGe, fSub, fFdiv, fMod, fPow, fIMul, fInt, fInt0, fCmp, fEq, fAdd, fMul, fRepN, fCatN, fNeg, fIs, fIn, flatD, fIx, fSl, fLen, fAbs, fIntOf, fTwo, fTupOf, fListOf, fIpAdd, DL.seen, ty_int_non, ty_int_bool, ty_int_int, ty_int_str, ty_int_list, ty_int_tuple, ty_bool_non, ty_bool_bool, ty_bool_int, ty_bool_str, ty_bool_list, ty_bool_tuple, ty_str_non, ty_str_bool, ty_str_int, ty_str_str, ty_str_list, ty_str_tuple, ty_list_non, ty_list_bool, ty_list_int, ty_list_str, ty_list_list, ty_list_tuple, ty_tuple_non, ty_tuple_bool, ty_tuple_int, ty_tuple_str, ty_tuple_list, ty_tuple_tuple, ty_dict_non, ty_dict_bool, ty_dict_int, ty_dict_str, ty_dict_list, ty_dict_tuple, Bool.not_false, Bool.not_true, List.getElem?_cons_zero, List.getElem?_cons_succ, List.set_cons_zero, List.set_cons_succ, br_t, br_f, wipeE, ↓reduceIte]
    rw [iL_len, List.take_length]
    exact h
abbrev sc_law_agreed : Scope := defScope s_law_agreed
theorem scp_law_agreed : FnScope N_law_agreed ["one", "other", "by"] sc_law_agreed := ⟨rfl, rfl, rfl, by decide +kernel, rfl, by decide +kernel, by decide +kernel⟩
theorem ok_law_agreed {P : Program} {w : World} {K : PySem.W.Frag} {mg : Str → Option Value} {base : Heap} (h : Hd K mg) : Fn P w K mg base 1 "_law_agreed" (spD K phi_law_agreed) := by
  obtain ⟨f, fd, F, hm⟩ := h.f_law_agreed
  have sc := scp_law_agreed
  exact Fn.mk' (fn_pure F scp_law_agreed len_law_agreed fun cdv A outer s H E hr => ⟨_, d_law_agreed, (q_cons (s_setN 3 sc.nd (pn_rep (pd_f (pn_lst (pa_c pd_i pa_n))) (pd_v 2)))
  (q_cons (s_for (i_seq (pd_ix (pd_v 0) pd_i)) (g_name 4 sc.nd)
  (q_one (s_for (i_seq (pd_ix (pd_v 1) pd_i)) (g_name 5 sc.nd)
  (q_one (s_augL 3 ip_addA vs_ipAdd (pd_mod (pd_T cs_int call_int1 h.b_int boot_int (pa_c (pd_sub (pd_sub (pd_add (pd_v 4) (pd_ix (pd_v 0) pd_i)) (pd_v 5)) (pd_ix (pd_v 1) pd_i)) pa_n)) (pd_v 2)) pd_i)))))
  (q_one (s_frz 3 (s_ret (pd_v 3)))))), rd_law_agreed⟩) hm F.kp (F.bindsN fun _ _ _ _ _ _ us hl => match us, hl with | [_, _, _], _ => rfl)
end B12


namespace B12
open PySem PySem.Spec PyProof.Rows L2 DL
/-! phases of turnings of unlike lengths: an error -/
def phiX_phases (mg : Str → Option Value) : PhX := fun ds P Z => ∃ n os st m us sv, ds = [tT n os st, tT m us sv, .int 1, .int 1] ∧ OkT n os st ∧ OkT m us sv ∧ 2 ≤ n ∧ (n = m → ∀ x, P x) ∧ (n ≠ m → ∀ D, mg "BadTurning" = some (.ref D) → Z D [("index", .int 1)])
theorem lenX_phases {mg : Str → Option Value} : ∀ ds Q Z, phiX_phases mg ds Q Z → ds.length = 4 := by rintro ds Q Z ⟨n, os, st, m, us, sv, rfl, _⟩; rfl
def d_phasesX (W : XK) (D_BadTurning : Addr) : DS := (dSeq (dDrop (dCall phi_need_two (dCons (dVar 0) (dCons (dVar 1) dNil))))
  (dSeq (dIfS (dB (dOp (fEq true) (dOp fIx (dVar 0) (dC (.int 0))) (dOp fIx (dVar 1) (dC (.int 0)))))
  (dRaise1 W D_BadTurning "index" (dC (.int 1)))
  dNext)
  (dSeq (dIfS (dNot (dB (dCall phi_is_within (dCons (dVar 2) (dCons (dC (.int 1)) (dCons (dC (.int 1000)) dNil))))))
  dNever
  dNext)
  (dSeq (dIfS (dNot (dB (dCall phi_is_within (dCons (dVar 3) (dCons (dC (.int 0)) (dCons (dOp fSub (dOp fIx (dVar 0) (dC (.int 0))) (dC (.int 1))) dNil))))))
  dNever
  dNext)
  (dSeq (dAsg (dTup (dCons (dCall phi_meetings_of (dCons (dVar 0) (dCons (dVar 1) dNil))) (dCons (dOp fFdiv (dOp fIx (dVar 0) (dC (.int 0))) (dCall phi_shared (dCons (dOp fIx (dVar 0) (dC (.int 0))) (dCons (dVar 3) dNil)))) dNil))) (dgTup 2 (dgCons (dgName 4) (dgCons (dgName 5) dgNil))))
  (dRet (dCB fTupOf (dCons (dFrz (dLc (dRng1 (dCons (dVar 5) dNil)) (dgName 6) dYes (dOp fMul (dVar 2) (dOp fIx (dVar 4) (dOp fMod (dOp fMul (dVar 6) (dVar 3)) (dOp fIx (dVar 0) (dC (.int 0)))))) [6])) dNil))))))))
theorem mk_BadTurning {P : Program} {w : World} {K : PySem.W.Frag} {mg : Str → Option Value} {base : Heap} (h : Hd K mg) : ∃ D, Mk1 P w K mg base 1 "BadTurning" "index" D := by
  obtain ⟨D, R, fI, fd, ⟨e1, e2⟩, ⟨e3, e4, e5⟩, ⟨e6, e7, F⟩, _⟩ := h.x_BadTurning.ex
  have S : FnScope ["self", "index"] ["self", "index"] (defScope s_BadTurning_init) := ⟨rfl, rfl, rfl, by decide +kernel, rfl, by decide +kernel, by decide +kernel⟩
  exact ⟨D, e1, e3, e4, fI, fd, _, e6, e7, fn_init F S e2 e5 rfl rfl rfl (by decide) (by decide) (by decide) (by decide) (by decide) (fun _ _ _ => ⟨_, rfl⟩) (fun _ _ _ => rfl) (fun _ _ _ => rfl), F.bindsN fun _ _ _ _ _ _ us hl => match us, hl with | [_, _], _ => rfl⟩
theorem rdX_phases {mg : Str → Option Value} (W : XK) {D : Addr} (hD : mg "BadTurning" = some (.ref D)) : ∀ ds Q Z, phiX_phases mg ds Q Z → d_phasesX W D { nx := fun _ => Q .none, rt := fun x _ => Q x, wx := W, rx := Z } (startE N_phases.length ds) := by
  rintro ds Q Z ⟨n, os, st, m, us, sv, rfl, ok, ok2, n2, h, hz⟩
  show d_phasesX _ _ _ [C.d (tT n os st), C.d (tT m us sv), C.d (.int 1), C.d (.int 1), .no, .no, .no]
  simp (config := { maxSteps := 4000000 }) only [d_phasesX, dRaise1, dXCall, dXApp, dCaught, dIsE, dXat, dNonE, dRev, dParV, dCallV, dStInt, dStTurn, dStNext, dMixed, dWhileS, dForS, dLcS, dStCells, dStPut, dAppPop, dBegun, dSeq, dCut, dNext, dFrzS, dSet, dSetN, dPar, dParN, dParM, dParNN, dDrop, dRet, dRetN, dIfS, dNever, dBreak, dCont, dAug, dApp, dPutL, dAugL, dIxO, dCBO, dOpO, dOpO2, dTupO, dWhile, dgName, dgNil, dgCons, dgTup, dAsg, dSeqI, dScrI, dRng1, dRng2, dRngN, dZip, dEnum, dFor, dLc, dLc2, dYes, dFrz, dVar, dC, dOp, dOpN, dUn, dChain, dNil, dCons, dTup, dCB, dCBN, dCall, dB, dAnd, dOr, dNot, dAndV, dOrV, dNotV, dIf, dNone, dSome, dSl, dIsi, dIsi2, dListR1, dListR2, dLenScr, dCallS, fLt, fLe, fGt, fGe, fSub, fFdiv, fMod, fPow, fIMul, fInt, fInt0, fCmp, fEq, fAdd, fMul, fRepN, fCatN, fNeg, fIs, fIn, flatD, fIx, fSl, fLen, fAbs, fIntOf, fTwo, fTupOf, fListOf, fIpAdd, DL.seen, ty_int_non, ty_int_bool, ty_int_int, ty_int_str, ty_int_list, ty_int_tuple, ty_bool_non, ty_bool_bool, ty_bool_int, ty_bool_str, ty_bool_list, ty_bool_tuple, ty_str_non, ty_str_bool, ty_str_int, ty_str_str, ty_str_list, ty_str_tuple, ty_list_non, ty_list_bool, ty_list_int, ty_list_str, ty_list_list, ty_list_tuple, ty_tuple_non, ty_tuple_bool, ty_tuple_int, ty_tuple_str, ty_tuple_list, ty_tuple_tuple, ty_dict_non, ty_dict_bool, ty_dict_int, ty_dict_str, ty_dict_list, ty_dict_tuple, Bool.not_false, Bool.not_true, List.getElem?_cons_zero, List.getElem?_cons_succ, List.set_cons_zero, List.set_cons_succ, br_t, br_f, wipeE, ↓reduceIte]
  have n1 := ok.n1
  have n3 := ok.n2
  refine ⟨_, _, _, _, _, _, rfl, ok, ok2, _, atI0, _, atI0, ?_⟩
  by_cases e : n = m
  · subst e
    simp (config := { maxSteps := 4000000 }) only [decide_true, dRaise1, dXCall, dXApp, dCaught, dIsE, dXat, dNonE, dRev, dParV, dCallV, dStInt, dStTurn, dStNext, dMixed, dWhileS, dForS, dLcS, dStCells, dStPut, dAppPop, dBegun, dSeq, dCut, dNext, dFrzS, dSet, dSetN, dPar, dParN, dParM, dParNN, dDrop, dRet, dRetN, dIfS, dNever, dBreak, dCont, dAug, dApp, dPutL, dAugL, dIxO, dCBO, dOpO, dOpO2, dTupO, dWhile, dgName, dgNil, dgCons, dgTup, dAsg, dSeqI, dScrI, dRng1, dRng2, dRngN, dZip, dEnum, dFor, dLc, dLc2, dYes, dFrz, dVar, dC, dOp, dOpN, dUn, dChain, dNil, dCons, dTup, dCB, dCBN, dCall, dB, dAnd, dOr, dNot, dAndV, dOrV, dNotV, dIf, dNone, dSome, dSl, dIsi, dIsi2, dListR1, dListR2, dLenScr, dCallS, fLt, fLe, fGt, fGe, fSub, fFdiv, fMod, fPow, fIMul, fInt, fInt0, fCmp, fEq, fAdd, fMul, fRepN, fCatN, fNeg, fIs, fIn, flatD, fIx, fSl, fLen, fAbs, fIntOf, fTwo, fTupOf, fListOf, fIpAdd, DL.seen, ty_int_non, ty_int_bool, ty_int_int, ty_int_str, ty_int_list, ty_int_tuple, ty_bool_non, ty_bool_bool, ty_bool_int, ty_bool_str, ty_bool_list, ty_bool_tuple, ty_str_non, ty_str_bool, ty_str_int, ty_str_str, ty_str_list, ty_str_tuple, ty_list_non, ty_list_bool, ty_list_int, ty_list_str, ty_list_list, ty_list_tuple, ty_tuple_non, ty_tuple_bool, ty_tuple_int, ty_tuple_str, ty_tuple_list, ty_tuple_tuple, ty_dict_non, ty_dict_bool, ty_dict_int, ty_dict_str, ty_dict_list, ty_dict_tuple, Bool.not_false, Bool.not_true, List.getElem?_cons_zero, List.getElem?_cons_succ, List.set_cons_zero, List.set_cons_succ, br_t, br_f, wipeE, ↓reduceIte]
    refine ⟨_, _, _, rfl, ?_⟩
    rw [decide_eq_true (show (1 : Int) ≤ 1 ∧ (1 : Int) ≤ 1000 by omega)]
    simp (config := { maxSteps := 4000000 }) only [dRaise1, dXCall, dXApp, dCaught, dIsE, dXat, dNonE, dRev, dParV, dCallV, dStInt, dStTurn, dStNext, dMixed, dWhileS, dForS, dLcS, dStCells, dStPut, dAppPop, dBegun, dSeq, dCut, dNext, dFrzS, dSet, dSetN, dPar, dParN, dParM, dParNN, dDrop, dRet, dRetN, dIfS, dNever, dBreak, dCont, dAug, dApp, dPutL, dAugL, dIxO, dCBO, dOpO, dOpO2, dTupO, dWhile, dgName, dgNil, dgCons, dgTup, dAsg, dSeqI, dScrI, dRng1, dRng2, dRngN, dZip, dEnum, dFor, dLc, dLc2, dYes, dFrz, dVar, dC, dOp, dOpN, dUn, dChain, dNil, dCons, dTup, dCB, dCBN, dCall, dB, dAnd, dOr, dNot, dAndV, dOrV, dNotV, dIf, dNone, dSome, dSl, dIsi, dIsi2, dListR1, dListR2, dLenScr, dCallS, fLt, fLe, fGt, fGe, fSub, fFdiv, fMod, fPow, fIMul, fInt, fInt0, fCmp, fEq, fAdd, fMul, fRepN, fCatN, fNeg, fIs, fIn, flatD, fIx, fSl, fLen, fAbs, fIntOf, fTwo, fTupOf, fListOf, fIpAdd, DL.seen, ty_int_non, ty_int_bool, ty_int_int, ty_int_str, ty_int_list, ty_int_tuple, ty_bool_non, ty_bool_bool, ty_bool_int, ty_bool_str, ty_bool_list, ty_bool_tuple, ty_str_non, ty_str_bool, ty_str_int, ty_str_str, ty_str_list, ty_str_tuple, ty_list_non, ty_list_bool, ty_list_int, ty_list_str, ty_list_list, ty_list_tuple, ty_tuple_non, ty_tuple_bool, ty_tuple_int, ty_tuple_str, ty_tuple_list, ty_tuple_tuple, ty_dict_non, ty_dict_bool, ty_dict_int, ty_dict_str, ty_dict_list, ty_dict_tuple, Bool.not_false, Bool.not_true, List.getElem?_cons_zero, List.getElem?_cons_succ, List.set_cons_zero, List.set_cons_succ, br_t, br_f, wipeE, ↓reduceIte]
    refine ⟨_, atI0, ?_⟩
    simp (config := { maxSteps := 4000000 }) only [dRaise1, dXCall, dXApp, dCaught, dIsE, dXat, dNonE, dRev, dParV, dCallV, dStInt, dStTurn, dStNext, dMixed, dWhileS, dForS, dLcS, dStCells, dStPut, dAppPop, dBegun, dSeq, dCut, dNext, dFrzS, dSet, dSetN, dPar, dParN, dParM, dParNN, dDrop, dRet, dRetN, dIfS, dNever, dBreak, dCont, dAug, dApp, dPutL, dAugL, dIxO, dCBO, dOpO, dOpO2, dTupO, dWhile, dgName, dgNil, dgCons, dgTup, dAsg, dSeqI, dScrI, dRng1, dRng2, dRngN, dZip, dEnum, dFor, dLc, dLc2, dYes, dFrz, dVar, dC, dOp, dOpN, dUn, dChain, dNil, dCons, dTup, dCB, dCBN, dCall, dB, dAnd, dOr, dNot, dAndV, dOrV, dNotV, dIf, dNone, dSome, dSl, dIsi, dIsi2, dListR1, dListR2, dLenScr, dCallS, fLt, fLe, fGt, fGe, fSub, fFdiv, fMod, fPow, fIMul, fInt, fInt0, fCmp, fEq, fAdd, fMul, fRepN, fCatN, fNeg, fIs, fIn, flatD, fIx, fSl, fLen, fAbs, fIntOf, fTwo, fTupOf, fListOf, fIpAdd, DL.seen, ty_int_non, ty_int_bool, ty_int_int, ty_int_str, ty_int_list, ty_int_tuple, ty_bool_non, ty_bool_bool, ty_bool_int, ty_bool_str, ty_bool_list, ty_bool_tuple, ty_str_non, ty_str_bool, ty_str_int, ty_str_str, ty_str_list, ty_str_tuple, ty_list_non, ty_list_bool, ty_list_int, ty_list_str, ty_list_list, ty_list_tuple, ty_tuple_non, ty_tuple_bool, ty_tuple_int, ty_tuple_str, ty_tuple_list, ty_tuple_tuple, ty_dict_non, ty_dict_bool, ty_dict_int, ty_dict_str, ty_dict_list, ty_dict_tuple, Bool.not_false, Bool.not_true, List.getElem?_cons_zero, List.getElem?_cons_succ, List.set_cons_zero, List.set_cons_succ, br_t, br_f, wipeE, ↓reduceIte]
    refine ⟨_, _, _, rfl, ?_⟩
    rw [decide_eq_true (show (0 : Int) ≤ 1 ∧ (1 : Int) ≤ n - 1 by omega)]
    simp (config := { maxSteps := 4000000 }) only [dRaise1, dXCall, dXApp, dCaught, dIsE, dXat, dNonE, dRev, dParV, dCallV, dStInt, dStTurn, dStNext, dMixed, dWhileS, dForS, dLcS, dStCells, dStPut, dAppPop, dBegun, dSeq, dCut, dNext, dFrzS, dSet, dSetN, dPar, dParN, dParM, dParNN, dDrop, dRet, dRetN, dIfS, dNever, dBreak, dCont, dAug, dApp, dPutL, dAugL, dIxO, dCBO, dOpO, dOpO2, dTupO, dWhile, dgName, dgNil, dgCons, dgTup, dAsg, dSeqI, dScrI, dRng1, dRng2, dRngN, dZip, dEnum, dFor, dLc, dLc2, dYes, dFrz, dVar, dC, dOp, dOpN, dUn, dChain, dNil, dCons, dTup, dCB, dCBN, dCall, dB, dAnd, dOr, dNot, dAndV, dOrV, dNotV, dIf, dNone, dSome, dSl, dIsi, dIsi2, dListR1, dListR2, dLenScr, dCallS, fLt, fLe, fGt, fGe, fSub, fFdiv, fMod, fPow, fIMul, fInt, fInt0, fCmp, fEq, fAdd, fMul, fRepN, fCatN, fNeg, fIs, fIn, flatD, fIx, fSl, fLen, fAbs, fIntOf, fTwo, fTupOf, fListOf, fIpAdd, DL.seen, ty_int_non, ty_int_bool, ty_int_int, ty_int_str, ty_int_list, ty_int_tuple, ty_bool_non, ty_bool_bool, ty_bool_int, ty_bool_str, ty_bool_list, ty_bool_tuple, ty_str_non, ty_str_bool, ty_str_int, ty_str_str, ty_str_list, ty_str_tuple, ty_list_non, ty_list_bool, ty_list_int, ty_list_str, ty_list_list, ty_list_tuple, ty_tuple_non, ty_tuple_bool, ty_tuple_int, ty_tuple_str, ty_tuple_list, ty_tuple_tuple, ty_dict_non, ty_dict_bool, ty_dict_int, ty_dict_str, ty_dict_list, ty_dict_tuple, Bool.not_false, Bool.not_true, List.getElem?_cons_zero, List.getElem?_cons_succ, List.set_cons_zero, List.set_cons_succ, br_t, br_f, wipeE, ↓reduceIte]
    refine ⟨_, _, _, _, _, _, rfl, ok, ok2, ?_⟩
    simp (config := { maxSteps := 4000000 }) only [dRaise1, dXCall, dXApp, dCaught, dIsE, dXat, dNonE, dRev, dParV, dCallV, dStInt, dStTurn, dStNext, dMixed, dWhileS, dForS, dLcS, dStCells, dStPut, dAppPop, dBegun, dSeq, dCut, dNext, dFrzS, dSet, dSetN, dPar, dParN, dParM, dParNN, dDrop, dRet, dRetN, dIfS, dNever, dBreak, dCont, dAug, dApp, dPutL, dAugL, dIxO, dCBO, dOpO, dOpO2, dTupO, dWhile, dgName, dgNil, dgCons, dgTup, dAsg, dSeqI, dScrI, dRng1, dRng2, dRngN, dZip, dEnum, dFor, dLc, dLc2, dYes, dFrz, dVar, dC, dOp, dOpN, dUn, dChain, dNil, dCons, dTup, dCB, dCBN, dCall, dB, dAnd, dOr, dNot, dAndV, dOrV, dNotV, dIf, dNone, dSome, dSl, dIsi, dIsi2, dListR1, dListR2, dLenScr, dCallS, fLt, fLe, fGt, fGe, fSub, fFdiv, fMod, fPow, fIMul, fInt, fInt0, fCmp, fEq, fAdd, fMul, fRepN, fCatN, fNeg, fIs, fIn, flatD, fIx, fSl, fLen, fAbs, fIntOf, fTwo, fTupOf, fListOf, fIpAdd, DL.seen, ty_int_non, ty_int_bool, ty_int_int, ty_int_str, ty_int_list, ty_int_tuple, ty_bool_non, ty_bool_bool, ty_bool_int, ty_bool_str, ty_bool_list, ty_bool_tuple, ty_str_non, ty_str_bool, ty_str_int, ty_str_str, ty_str_list, ty_str_tuple, ty_list_non, ty_list_bool, ty_list_int, ty_list_str, ty_list_list, ty_list_tuple, ty_tuple_non, ty_tuple_bool, ty_tuple_int, ty_tuple_str, ty_tuple_list, ty_tuple_tuple, ty_dict_non, ty_dict_bool, ty_dict_int, ty_dict_str, ty_dict_list, ty_dict_tuple, Bool.not_false, Bool.not_true, List.getElem?_cons_zero, List.getElem?_cons_succ, List.set_cons_zero, List.set_cons_succ, br_t, br_f, wipeE, ↓reduceIte]
    refine ⟨_, atI0, _, atI0, n, 1, rfl, by omega, by omega, ?_⟩
    simp (config := { maxSteps := 4000000 }) only [dRaise1, dXCall, dXApp, dCaught, dIsE, dXat, dNonE, dRev, dParV, dCallV, dStInt, dStTurn, dStNext, dMixed, dWhileS, dForS, dLcS, dStCells, dStPut, dAppPop, dBegun, dSeq, dCut, dNext, dFrzS, dSet, dSetN, dPar, dParN, dParM, dParNN, dDrop, dRet, dRetN, dIfS, dNever, dBreak, dCont, dAug, dApp, dPutL, dAugL, dIxO, dCBO, dOpO, dOpO2, dTupO, dWhile, dgName, dgNil, dgCons, dgTup, dAsg, dSeqI, dScrI, dRng1, dRng2, dRngN, dZip, dEnum, dFor, dLc, dLc2, dYes, dFrz, dVar, dC, dOp, dOpN, dUn, dChain, dNil, dCons, dTup, dCB, dCBN, dCall, dB, dAnd, dOr, dNot, dAndV, dOrV, dNotV, dIf, dNone, dSome, dSl, dIsi, dIsi2, dListR1, dListR2, dLenScr, dCallS, fLt, fLe, fGt, fGe, fSub, fFdiv, fMod, fPow, fIMul, fInt, fInt0, fCmp, fEq, fAdd, fMul, fRepN, fCatN, fNeg, fIs, fIn, flatD, fIx, fSl, fLen, fAbs, fIntOf, fTwo, fTupOf, fListOf, fIpAdd, DL.seen, ty_int_non, ty_int_bool, ty_int_int, ty_int_str, ty_int_list, ty_int_tuple, ty_bool_non, ty_bool_bool, ty_bool_int, ty_bool_str, ty_bool_list, ty_bool_tuple, ty_str_non, ty_str_bool, ty_str_int, ty_str_str, ty_str_list, ty_str_tuple, ty_list_non, ty_list_bool, ty_list_int, ty_list_str, ty_list_list, ty_list_tuple, ty_tuple_non, ty_tuple_bool, ty_tuple_int, ty_tuple_str, ty_tuple_list, ty_tuple_tuple, ty_dict_non, ty_dict_bool, ty_dict_int, ty_dict_str, ty_dict_list, ty_dict_tuple, Bool.not_false, Bool.not_true, List.getElem?_cons_zero, List.getElem?_cons_succ, List.set_cons_zero, List.set_cons_succ, br_t, br_f, wipeE, ↓reduceIte]
    have g1 : Int.gcd n 1 = 1 := Int.gcd_one_right n
    rw [g1]
    have e1 : n / ((1 : Nat) : Int) = n := by omega
    rw [e1]
    refine ⟨log_small (by omega) (by omega), rfl, rfl, ⟨by omega, by omega⟩, fun i acc => True, trivial, by rw [rgD_len]; exact line_big (by omega), fun i x acc hx hw => ?_, fun acc hw => h rfl _⟩
    obtain ⟨hi, rfl⟩ := rgD_at hx
    rw [Int.zero_add]
    simp (config := { maxSteps := 4000000 }) only [dRaise1, dXCall, dXApp, dCaught, dIsE, dXat, dNonE, dRev, dParV, dCallV, dStInt, dStTurn, dStNext, dMixed, dWhileS, dForS, dLcS, dStCells, dStPut, dAppPop, dBegun, dSeq, dCut, dNext, dFrzS, dSet, dSetN, dPar, dParN, dParM, dParNN, dDrop, dRet, dRetN, dIfS, dNever, dBreak, dCont, dAug, dApp, dPutL, dAugL, dIxO, dCBO, dOpO, dOpO2, dTupO, dWhile, dgName, dgNil, dgCons, dgTup, dAsg, dSeqI, dScrI, dRng1, dRng2, dRngN, dZip, dEnum, dFor, dLc, dLc2, dYes, dFrz, dVar, dC, dOp, dOpN, dUn, dChain, dNil, dCons, dTup, dCB, dCBN, dCall, dB, dAnd, dOr, dNot, dAndV, dOrV, dNotV, dIf, dNone, dSome, dSl, dIsi, dIsi2, dListR1, dListR2, dLenScr, dCallS, fLt, fLe, fGt, fGe, fSub, fFdiv, fMod, fPow, fIMul, fInt, fInt0, fCmp, fEq, fAdd, fMul, fRepN, fCatN, fNeg, fIs, fIn, flatD, fIx, fSl, fLen, fAbs, fIntOf, fTwo, fTupOf, fListOf, fIpAdd, DL.seen, ty_int_non, ty_int_bool, ty_int_int, ty_int_str, ty_int_list, ty_int_tuple, ty_bool_non, ty_bool_bool, ty_bool_int, ty_bool_str, ty_bool_list, ty_bool_tuple, ty_str_non, ty_str_bool, ty_str_int, ty_str_str, ty_str_list, ty_str_tuple, ty_list_non, ty_list_bool, ty_list_int, ty_list_str, ty_list_list, ty_list_tuple, ty_tuple_non, ty_tuple_bool, ty_tuple_int, ty_tuple_str, ty_tuple_list, ty_tuple_tuple, ty_dict_non, ty_dict_bool, ty_dict_int, ty_dict_str, ty_dict_list, ty_dict_tuple, Bool.not_false, Bool.not_true, List.getElem?_cons_zero, List.getElem?_cons_succ, List.set_cons_zero, List.set_cons_succ, br_t, br_f, wipeE, ↓reduceIte]
    refine ⟨.inl (.inr ⟨by omega, by omega⟩), _, atI0, ?_⟩
    simp (config := { maxSteps := 4000000 }) only [dRaise1, dXCall, dXApp, dCaught, dIsE, dXat, dNonE, dRev, dParV, dCallV, dStInt, dStTurn, dStNext, dMixed, dWhileS, dForS, dLcS, dStCells, dStPut, dAppPop, dBegun, dSeq, dCut, dNext, dFrzS, dSet, dSetN, dPar, dParN, dParM, dParNN, dDrop, dRet, dRetN, dIfS, dNever, dBreak, dCont, dAug, dApp, dPutL, dAugL, dIxO, dCBO, dOpO, dOpO2, dTupO, dWhile, dgName, dgNil, dgCons, dgTup, dAsg, dSeqI, dScrI, dRng1, dRng2, dRngN, dZip, dEnum, dFor, dLc, dLc2, dYes, dFrz, dVar, dC, dOp, dOpN, dUn, dChain, dNil, dCons, dTup, dCB, dCBN, dCall, dB, dAnd, dOr, dNot, dAndV, dOrV, dNotV, dIf, dNone, dSome, dSl, dIsi, dIsi2, dListR1, dListR2, dLenScr, dCallS, fLt, fLe, fGt, fGe, fSub, fFdiv, fMod, fPow, fIMul, fInt, fInt0, fCmp, fEq, fAdd, fMul, fRepN, fCatN, fNeg, fIs, fIn, flatD, fIx, fSl, fLen, fAbs, fIntOf, fTwo, fTupOf, fListOf, fIpAdd, DL.seen, ty_int_non, ty_int_bool, ty_int_int, ty_int_str, ty_int_list, ty_int_tuple, ty_bool_non, ty_bool_bool, ty_bool_int, ty_bool_str, ty_bool_list, ty_bool_tuple, ty_str_non, ty_str_bool, ty_str_int, ty_str_str, ty_str_list, ty_str_tuple, ty_list_non, ty_list_bool, ty_list_int, ty_list_str, ty_list_list, ty_list_tuple, ty_tuple_non, ty_tuple_bool, ty_tuple_int, ty_tuple_str, ty_tuple_list, ty_tuple_tuple, ty_dict_non, ty_dict_bool, ty_dict_int, ty_dict_str, ty_dict_list, ty_dict_tuple, Bool.not_false, Bool.not_true, List.getElem?_cons_zero, List.getElem?_cons_succ, List.set_cons_zero, List.set_cons_succ, br_t, br_f, wipeE, ↓reduceIte]
    have m0 := Int.emod_nonneg ((i : Int) * 1) (show n ≠ 0 by omega)
    have m1 := Int.emod_lt_of_pos ((i : Int) * 1) (show 0 < n by omega)
    refine ⟨by omega, _, atI_int m0 (getD_at (by rw [meetL_len n1]; omega)), ?_⟩
    simp (config := { maxSteps := 4000000 }) only [dRaise1, dXCall, dXApp, dCaught, dIsE, dXat, dNonE, dRev, dParV, dCallV, dStInt, dStTurn, dStNext, dMixed, dWhileS, dForS, dLcS, dStCells, dStPut, dAppPop, dBegun, dSeq, dCut, dNext, dFrzS, dSet, dSetN, dPar, dParN, dParM, dParNN, dDrop, dRet, dRetN, dIfS, dNever, dBreak, dCont, dAug, dApp, dPutL, dAugL, dIxO, dCBO, dOpO, dOpO2, dTupO, dWhile, dgName, dgNil, dgCons, dgTup, dAsg, dSeqI, dScrI, dRng1, dRng2, dRngN, dZip, dEnum, dFor, dLc, dLc2, dYes, dFrz, dVar, dC, dOp, dOpN, dUn, dChain, dNil, dCons, dTup, dCB, dCBN, dCall, dB, dAnd, dOr, dNot, dAndV, dOrV, dNotV, dIf, dNone, dSome, dSl, dIsi, dIsi2, dListR1, dListR2, dLenScr, dCallS, fLt, fLe, fGt, fGe, fSub, fFdiv, fMod, fPow, fIMul, fInt, fInt0, fCmp, fEq, fAdd, fMul, fRepN, fCatN, fNeg, fIs, fIn, flatD, fIx, fSl, fLen, fAbs, fIntOf, fTwo, fTupOf, fListOf, fIpAdd, DL.seen, ty_int_non, ty_int_bool, ty_int_int, ty_int_str, ty_int_list, ty_int_tuple, ty_bool_non, ty_bool_bool, ty_bool_int, ty_bool_str, ty_bool_list, ty_bool_tuple, ty_str_non, ty_str_bool, ty_str_int, ty_str_str, ty_str_list, ty_str_tuple, ty_list_non, ty_list_bool, ty_list_int, ty_list_str, ty_list_list, ty_list_tuple, ty_tuple_non, ty_tuple_bool, ty_tuple_int, ty_tuple_str, ty_tuple_list, ty_tuple_tuple, ty_dict_non, ty_dict_bool, ty_dict_int, ty_dict_str, ty_dict_list, ty_dict_tuple, Bool.not_false, Bool.not_true, List.getElem?_cons_zero, List.getElem?_cons_succ, List.set_cons_zero, List.set_cons_succ, br_t, br_f, wipeE, ↓reduceIte]
    exact ⟨.inl (.inl ⟨by omega, by omega⟩), trivial⟩
  · simp (config := { maxSteps := 4000000 }) only [decide_eq_false e, dRaise1, dXCall, dXApp, dCaught, dIsE, dXat, dNonE, dRev, dParV, dCallV, dStInt, dStTurn, dStNext, dMixed, dWhileS, dForS, dLcS, dStCells, dStPut, dAppPop, dBegun, dSeq, dCut, dNext, dFrzS, dSet, dSetN, dPar, dParN, dParM, dParNN, dDrop, dRet, dRetN, dIfS, dNever, dBreak, dCont, dAug, dApp, dPutL, dAugL, dIxO, dCBO, dOpO, dOpO2, dTupO, dWhile, dgName, dgNil, dgCons, dgTup, dAsg, dSeqI, dScrI, dRng1, dRng2, dRngN, dZip, dEnum, dFor, dLc, dLc2, dYes, dFrz, dVar, dC, dOp, dOpN, dUn, dChain, dNil, dCons, dTup, dCB, dCBN, dCall, dB, dAnd, dOr, dNot, dAndV, dOrV, dNotV, dIf, dNone, dSome, dSl, dIsi, dIsi2, dListR1, dListR2, dLenScr, dCallS, fLt, fLe, fGt, fGe, fSub, fFdiv, fMod, fPow, fIMul, fInt, fInt0, fCmp, fEq, fAdd, fMul, fRepN, fCatN, fNeg, fIs, fIn, flatD, fIx, fSl, fLen, fAbs, fIntOf, fTwo, fTupOf, fListOf, fIpAdd, DL.seen, ty_int_non, ty_int_bool, ty_int_int, ty_int_str, ty_int_list, ty_int_tuple, ty_bool_non, ty_bool_bool, ty_bool_int, ty_bool_str, ty_bool_list, ty_bool_tuple, ty_str_non, ty_str_bool, ty_str_int, ty_str_str, ty_str_list, ty_str_tuple, ty_list_non, ty_list_bool, ty_list_int, ty_list_str, ty_list_list, ty_list_tuple, ty_tuple_non, ty_tuple_bool, ty_tuple_int, ty_tuple_str, ty_tuple_list, ty_tuple_tuple, ty_dict_non, ty_dict_bool, ty_dict_int, ty_dict_str, ty_dict_list, ty_dict_tuple, Bool.not_false, Bool.not_true, List.getElem?_cons_zero, List.getElem?_cons_succ, List.set_cons_zero, List.set_cons_succ, br_t, br_f, wipeE, ↓reduceIte]
    exact ⟨trivial, hz e D hD⟩
theorem ok_phasesX {P : Program} {w : World} {K : PySem.W.Frag} {mg : Str → Option Value} {base : Heap} (h : Hd K mg) (c_need_two : Fn P w K mg base 4 "need_two" (spD K phi_need_two)) (c_is_within : Fn P w K mg base 2 "is_within" (spD K phi_is_within)) (c_shared : Fn P w K mg base 1 "shared" (spD K phi_shared)) (c_meetings_of : Fn P w K mg base 2 "meetings_of" (spD K phi_meetings_of)) : FnX P w K mg base 5 "phases" (phiX_phases mg) := by
  obtain ⟨f, fd, F, hm⟩ := h.f_phases
  obtain ⟨D_BadTurning, M_BadTurning⟩ := mk_BadTurning (P := P) (w := w) (base := base) h
  have sc := scp_phases
  exact FnX.mk' (fn_X F scp_phases lenX_phases fun cdv A outer s H E hr => by
    have tk := takes_of (X := cxOf (L2.CX P w) P w K mg base N_phases "phases" sc_phases f cdv A outer s H E) (E := E) rfl rfl rfl rfl
    exact ⟨_, d_phasesX E D_BadTurning, (q_cons (s_drop (pd_call c_need_two hr (pa_c (pd_v 0) (pa_c (pd_v 1) pa_n))))
  (q_cons (s_if (pt_cmp (c_ne hr) (pd_ix (pd_v 0) pd_i) (pd_ix (pd_v 1) pd_i))
  (q_one (s_raise1 M_BadTurning tk hr pd_i))
  q_nil)
  (q_cons (s_if (pt_n (pt_e (pd_call c_is_within hr (pa_c (pd_v 2) (pa_c pd_i (pa_c (pd_g h.g_MOST_ROUNDS) pa_n))))))
  (q_one s_never)
  q_nil)
  (q_cons (s_if (pt_n (pt_e (pd_call c_is_within hr (pa_c (pd_v 3) (pa_c pd_i (pa_c (pd_sub (pd_ix (pd_v 0) pd_i) pd_i) pa_n))))))
  (q_one s_never)
  q_nil)
  (q_cons (s_asg (pd_tup (pa_c (pd_call c_meetings_of hr (pa_c (pd_v 0) (pa_c (pd_v 1) pa_n))) (pa_c (pd_fdiv (pd_ix (pd_v 0) pd_i) (pd_call c_shared hr (pa_c (pd_ix (pd_v 0) pd_i) (pa_c (pd_v 3) pa_n)))) pa_n))) (g_tup 2 (gs_cons (g_name 4 sc.nd) (gs_cons (g_name 5 sc.nd) gs_nil))))
  (q_one (s_ret (pd_T cs_tuple call_tuple_of h.b_tuple boot_tuple (pa_c (pd_f (n_of (l_lc [("block", 6)] sc.nd (i_r1 h.b_range (pa_c (pd_v 5) pa_n)) (blkOk_by (own := [("block", 6)]) (N := N_phases) (sc := sc_phases) (by decide +kernel)) (fun _ _ _ _ _ => (g_name 6 sc.nd)) (fun _ _ _ _ _ => t_yes) (fun _ _ _ _ _ => (pd_mul (pd_v 2) (pd_ix (pd_v 4) (pd_mod (pd_mul (pd_v 6) (pd_v 3)) (pd_ix (pd_v 0) pd_i)))))))) pa_n))))))))), rfl, rdX_phases E M_BadTurning.nm⟩) hm F.kp (F.bindsN fun _ _ _ _ _ _ us hl => match us, hl with | [_, _, _, _], _ => rfl)
abbrev kX_phases : Nat := 5
/-! the law itself -/
def okx (mg : Str → Option Value) : Addr → Prop := okA mg "BadTurning"
theorem okx_ok {K : PySem.W.Frag} {mg : Str → Option Value} (h : Hd K mg) {R : Addr} (hR : mg "RhythmError" = some (.ref R)) : ∀ C, okx mg C → PySem.W.exmOne K (.ref C) (.ref R) = some true := h.x_BadTurning.atX hR
/-! law(script): script=0 state=1 turn=2 n=3 crowd=4 one=5 other=6 away=7 step=8 size=9 third=10 by=11 wrong=12 rounds=13 blocks=14 due=15 block=16 -/
abbrev lamq : Str := (envOfC "law" (defScope s_law) 0 0 .none).qual ++ "<lambda>"
abbrev N_law : List Str := ["script", "state", "turn", "n", "crowd", "one", "other", "away", "step", "size", "third", "by", "wrong", "rounds", "blocks", "due", "block"]
def d_law_q0 : DS := (dIfS (dAnd (dB (dOp fGt (dVar 8) (dC (.int 0)))) (dAnd (dB (dOp (fEq false) (dCall phi_law_common (dCons (dVar 3) (dCons (dVar 8) dNil))) (dC (.int 1)))) (dB (dOp (fEq true) (dCB fSum (dCons (dVar 15) dNil)) (dOp fMul (dOp fMul (dVar 13) (dCB fLen (dCons (dOp fIx (dVar 5) (dC (.int 1))) dNil))) (dCB fLen (dCons (dOp fIx (dVar 6) (dC (.int 1))) dNil)))))))
  (dRet (dC (.bool false)))
  dNext)
def d_law_q1 : DS := (dSeq (dIfS (dNot (dB (dCall (phi_law_is 6) (dCons (dFrz (dCBN fListOf (dCons (dCall phi_phases (dCons (dVar 5) (dCons (dVar 6) (dCons (dVar 13) (dCons (dVar 8) dNil))))) dNil))) (dCons (dVar 15) dNil)))))
  (dRet (dC (.bool false)))
  dNext)
  d_law_q0)
def d_law_q2 : DS := (dSeq (dSet 15 (dFrz (dLc (dRng1 (dCons (dVar 14) dNil)) (dgName 16) dYes (dOp fMul (dVar 13) (dOp fIx (dVar 7) (dOp fMod (dCB fIntOf (dCons (dOp fMul (dVar 16) (dVar 8)) dNil)) (dVar 3)))) [16])))
  d_law_q1)
def d_law_q3 : DS := (dSeq (dSet 14 (dIf (dB (dOp fGt (dVar 8) (dC (.int 0)))) (dOp fFdiv (dVar 3) (dCall phi_law_common (dCons (dVar 3) (dCons (dVar 8) dNil)))) (dC (.int 1))))
  d_law_q2)
def d_law_q4 : DS := (dSeq (dSet 13 (dOp fAdd (dC (.int 1)) (dCallS 1 phi_law_draw k_law_draw (dCons (dCallS 1 phi_law_pick k_law_pick (dCons (dFrz (dCons (dC (.int 3)) (dCons (dC (.int 1000)) dNil))) dNil)) dNil))))
  d_law_q3)
def d_law_q5 (mg : Str → Option Value) (T : Addr) : DS := (dIfS (dAnd (dB (dOp (fEq true) (dVar 9) (dVar 3))) (dOr (dNot (dB (dIsE 12 (okI mg "BadTurning")))) (dNot (dB (dCall (phi_law_is 6) (dCons (dXat 12 "index" (okA mg "BadTurning")) (dCons (dC (.int 1)) dNil)))))))
  (dRet (dC (.bool false)))
  dNext)
def d_law_q6 (mg : Str → Option Value) (T : Addr) : DS := (dSeq (dCaught 12 0 T lamq (okx mg) (dXCall (phiX_phases mg) (dCons (dVar 5) (dCons (dVar 10) (dCons (dC (.int 1)) (dCons (dC (.int 1)) dNil))))))
  (d_law_q5 mg T))
def d_law_q7 (mg : Str → Option Value) (T : Addr) : DS := (dSeq (dIfS (dNot (dB (dCall (phi_law_is 6) (dCons (dFrz (dCBN fListOf (dCons (dCall phi_meetings (dCons (dVar 5) (dCons (dVar 10) dNil))) dNil))) (dCons (dCall phi_law_agreed (dCons (dVar 5) (dCons (dVar 10) (dCons (dVar 11) dNil)))) dNil)))))
  (dRet (dC (.bool false)))
  dNext)
  (d_law_q6 mg T))
def d_law_q8 (mg : Str → Option Value) (T : Addr) : DS := (dSeq (dSet 11 (dCall phi_law_common (dCons (dVar 3) (dCons (dVar 9) dNil))))
  (d_law_q7 mg T))
def d_law_q9 (mg : Str → Option Value) (T : Addr) : DS := (dSeq (dSet 10 (dTup (dCons (dVar 9) (dCons (dOp fIx (dCallS 1 phi_law_some_ring k_law_some_ring (dCons (dVar 9) (dCons (dC (.int 1)) (dCons (dCB fMinL (dCons (dFrz (dCons (dVar 9) (dCons (dC (.int 9)) dNil))) dNil)) dNil)))) (dC (.int 1))) (dCons (dCallS 1 phi_law_draw k_law_draw (dCons (dOp fPow (dC (.int 10)) (dC (.int 9))) dNil)) dNil)))))
  (d_law_q8 mg T))
def d_law_q10 (mg : Str → Option Value) (T : Addr) : DS := (dSeq (dSet 9 (dOp fAdd (dC (.int 2)) (dCallS 1 phi_law_draw k_law_draw (dCons (dC (.int 239)) dNil))))
  (d_law_q9 mg T))
def d_law_q11 (mg : Str → Option Value) (T : Addr) : DS := (dSeq (dForS (dSeqI (dFrz (dCons (dC (.int 0)) (dCons (dC (.int 1)) (dCons (dOp fSub (dVar 3) (dC (.int 1))) (dCons (dCallS 1 phi_law_draw k_law_draw (dCons (dVar 3) dNil)) (dCons (dCallS 1 phi_law_draw k_law_draw (dCons (dVar 3) dNil)) dNil))))))) (dgName 8)
  d_law_q4)
  (d_law_q10 mg T))
def d_law_q12 (mg : Str → Option Value) (T : Addr) : DS := (dSeq (dIfS (dOr (dNot (dB (dCall (phi_law_is 6) (dCons (dFrz (dCBN fListOf (dCons (dCall phi_meetings (dCons (dVar 5) (dCons (dVar 6) dNil))) dNil))) (dCons (dVar 7) dNil))))) (dNot (dB (dCall (phi_law_is 6) (dCons (dOp fIx (dCall phi_counts (dCons (dFrz (dCons (dVar 5) (dCons (dVar 6) dNil))) dNil)) (dC (.int 2))) (dCons (dOp fIx (dVar 7) (dC (.int 0))) dNil))))))
  (dRet (dC (.bool false)))
  dNext)
  (d_law_q11 mg T))
def d_law_q13 (mg : Str → Option Value) (T : Addr) : DS := (dSeq (dSet 7 (dCall phi_law_agreed (dCons (dVar 5) (dCons (dVar 6) (dCons (dVar 3) dNil)))))
  (d_law_q12 mg T))
def d_law_q14 (mg : Str → Option Value) (T : Addr) : DS := (dSeq (dSet 6 (dTup (dCons (dVar 3) (dCons (dOp fIx (dCallS 1 phi_law_some_ring k_law_some_ring (dCons (dVar 3) (dCons (dC (.int 1)) (dCons (dCB fMinL (dCons (dFrz (dCons (dVar 3) (dCons (dC (.int 9)) dNil))) dNil)) dNil)))) (dC (.int 1))) (dCons (dCallS 1 phi_law_draw k_law_draw (dCons (dOp fPow (dC (.int 10)) (dC (.int 9))) dNil)) dNil)))))
  (d_law_q13 mg T))
def d_law_q15 (mg : Str → Option Value) (T : Addr) : DS := (dSeq (dSet 5 (dTup (dCons (dVar 3) (dCons (dCB fTupOf (dCons (dFrz (dCBN fSort (dCons (dSl fSl (dCallS 1 phi_law_shuffled k_law_shuffled (dCons (dFrz (dListR1 (dVar 4))) dNil)) dNone (dSome (dOp fAdd (dC (.int 1)) (dCallS 1 phi_law_draw k_law_draw (dCons (dC (.int 12)) dNil))))) dNil))) dNil)) (dCons (dCallS 1 phi_law_draw k_law_draw (dCons (dOp fPow (dC (.int 10)) (dC (.int 9))) dNil)) dNil)))))
  (d_law_q14 mg T))
def d_law_q16 (mg : Str → Option Value) (T : Addr) : DS := (dSeq (dSet 4 (dOp fAdd (dC (.int 1)) (dCallS 1 phi_law_draw k_law_draw (dCons (dOp fAdd (dC (.int 1)) (dOp fFdiv (dVar 3) (dC (.int 3)))) dNil))))
  (d_law_q15 mg T))
def d_law_q17 (mg : Str → Option Value) (T : Addr) : DS := (dSeq (dSet 3 (dOp fAdd (dC (.int 2)) (dCallS 1 phi_law_draw k_law_draw (dCons (dC (.int 239)) dNil))))
  (d_law_q16 mg T))
def d_law_q18 : DS := (dRet (dC (.bool true)))
def d_law_q19 (mg : Str → Option Value) (T : Addr) : DS := (dSeq (dForS (dRng1 (dCons (dOp fAdd (dC (.int 4)) (dCB (fTwo min) (dCons (dLenScr 0) (dCons (dC (.int 10)) dNil)))) dNil)) (dgName 2)
  (d_law_q17 mg T))
  d_law_q18)
def d_law (mg : Str → Option Value) (T : Addr) : DS := (d_law_q19 mg T)
theorem cost_q5 {mg : Str → Option Value} {T : Addr} : (d_law_q5 mg T).cost = (d_law_q5 (fun _ => none) 0).cost := by
  unfold d_law_q5
  simp only [dSeq, dCut, dForS, dFor, dIfS, dWhileS, dWhile, dFrzS]
  try rfl
theorem cost_q6 {mg : Str → Option Value} {T : Addr} : (d_law_q6 mg T).cost = (d_law_q6 (fun _ => none) 0).cost := by
  unfold d_law_q6
  simp only [dSeq, dCut, dForS, dFor, dIfS, dWhileS, dWhile, dFrzS, cost_q5 (mg := mg) (T := T)]
  try rfl
theorem cost_q7 {mg : Str → Option Value} {T : Addr} : (d_law_q7 mg T).cost = (d_law_q7 (fun _ => none) 0).cost := by
  unfold d_law_q7
  simp only [dSeq, dCut, dForS, dFor, dIfS, dWhileS, dWhile, dFrzS, cost_q6 (mg := mg) (T := T)]
  try rfl
theorem cost_q8 {mg : Str → Option Value} {T : Addr} : (d_law_q8 mg T).cost = (d_law_q8 (fun _ => none) 0).cost := by
  unfold d_law_q8
  simp only [dSeq, dCut, dForS, dFor, dIfS, dWhileS, dWhile, dFrzS, cost_q7 (mg := mg) (T := T)]
  try rfl
theorem cost_q9 {mg : Str → Option Value} {T : Addr} : (d_law_q9 mg T).cost = (d_law_q9 (fun _ => none) 0).cost := by
  unfold d_law_q9
  simp only [dSeq, dCut, dForS, dFor, dIfS, dWhileS, dWhile, dFrzS, cost_q8 (mg := mg) (T := T)]
  try rfl
theorem cost_q10 {mg : Str → Option Value} {T : Addr} : (d_law_q10 mg T).cost = (d_law_q10 (fun _ => none) 0).cost := by
  unfold d_law_q10
  simp only [dSeq, dCut, dForS, dFor, dIfS, dWhileS, dWhile, dFrzS, cost_q9 (mg := mg) (T := T)]
  try rfl
theorem cost_q11 {mg : Str → Option Value} {T : Addr} : (d_law_q11 mg T).cost = (d_law_q11 (fun _ => none) 0).cost := by
  unfold d_law_q11
  simp only [dSeq, dCut, dForS, dFor, dIfS, dWhileS, dWhile, dFrzS, cost_q10 (mg := mg) (T := T)]
  try rfl
theorem cost_q12 {mg : Str → Option Value} {T : Addr} : (d_law_q12 mg T).cost = (d_law_q12 (fun _ => none) 0).cost := by
  unfold d_law_q12
  simp only [dSeq, dCut, dForS, dFor, dIfS, dWhileS, dWhile, dFrzS, cost_q11 (mg := mg) (T := T)]
  try rfl
theorem cost_q13 {mg : Str → Option Value} {T : Addr} : (d_law_q13 mg T).cost = (d_law_q13 (fun _ => none) 0).cost := by
  unfold d_law_q13
  simp only [dSeq, dCut, dForS, dFor, dIfS, dWhileS, dWhile, dFrzS, cost_q12 (mg := mg) (T := T)]
  try rfl
theorem cost_q14 {mg : Str → Option Value} {T : Addr} : (d_law_q14 mg T).cost = (d_law_q14 (fun _ => none) 0).cost := by
  unfold d_law_q14
  simp only [dSeq, dCut, dForS, dFor, dIfS, dWhileS, dWhile, dFrzS, cost_q13 (mg := mg) (T := T)]
  try rfl
theorem cost_q15 {mg : Str → Option Value} {T : Addr} : (d_law_q15 mg T).cost = (d_law_q15 (fun _ => none) 0).cost := by
  unfold d_law_q15
  simp only [dSeq, dCut, dForS, dFor, dIfS, dWhileS, dWhile, dFrzS, cost_q14 (mg := mg) (T := T)]
  try rfl
theorem cost_q16 {mg : Str → Option Value} {T : Addr} : (d_law_q16 mg T).cost = (d_law_q16 (fun _ => none) 0).cost := by
  unfold d_law_q16
  simp only [dSeq, dCut, dForS, dFor, dIfS, dWhileS, dWhile, dFrzS, cost_q15 (mg := mg) (T := T)]
  try rfl
theorem cost_q17 {mg : Str → Option Value} {T : Addr} : (d_law_q17 mg T).cost = (d_law_q17 (fun _ => none) 0).cost := by
  unfold d_law_q17
  simp only [dSeq, dCut, dForS, dFor, dIfS, dWhileS, dWhile, dFrzS, cost_q16 (mg := mg) (T := T)]
  try rfl
theorem cost_q19 {mg : Str → Option Value} {T : Addr} : (d_law_q19 mg T).cost = (d_law_q19 (fun _ => none) 0).cost := by
  unfold d_law_q19
  simp only [dSeq, dCut, dForS, dFor, dIfS, dWhileS, dWhile, dFrzS, cost_q17 (mg := mg) (T := T)]
  try rfl
theorem cost_law {mg : Str → Option Value} {T : Addr} : (d_law mg T).cost ≤ 2 ^ 46 := by
  rw [show (d_law mg T).cost = (d_law (fun _ => none) 0).cost from cost_q19]
  decide +kernel
end B12


namespace B12
open PySem PySem.Spec PyProof.Rows L2 DL
/-! sums by how often -/
theorem sum_pick (D : Nat) (f : Int → Int) (x : Int) (h0 : 0 ≤ x) (h : x < D) : ((List.range D).map fun (k : Nat) => if x = (k : Int) then f x else 0).sum = f x := by
  induction D with
  | zero => omega
  | succ D ih =>
    rw [List.range_succ, List.map_append, List.sum_append]
    by_cases e : x = D
    · rw [sum_zero]
      · simp [e]
      · intro k hk
        have := List.mem_range.mp hk
        rw [if_neg (by omega)]
    · rw [ih (by omega)]
      simp [e]
theorem sum_hist {n : Nat} (f : Int → Int) : ∀ {xs : List Int}, (∀ x ∈ xs, 0 ≤ x ∧ x < n) → (xs.map f).sum = ((List.range n).map fun (k : Nat) => (xs.count (k : Int) : Int) * f k).sum
  | [], _ => by
    refine (sum_zero _ _ fun k _ => ?_).symm
    simp
  | x :: xs, h => by
    have hx := h x List.mem_cons_self
    have e : ((List.range n).map fun (k : Nat) => ((x :: xs).count (k : Int) : Int) * f k) = (List.range n).map fun (k : Nat) => (if x = (k : Int) then f x else 0) + (xs.count (k : Int) : Int) * f k := by
      refine List.map_congr_left fun k _ => ?_
      rw [List.count_cons]
      by_cases e : x = (k : Int)
      · simp [e, Int.add_mul]
        omega
      · simp [e]
    rw [e, sum_add, sum_pick n f x hx.1 hx.2, List.map_cons, List.sum_cons, sum_hist f fun y hy => h y (List.mem_cons_of_mem _ hy)]
/-- as often as all: each once -/
theorem count_one {n : Nat} {xs : List Int} (h : ∀ x ∈ xs, 0 ≤ x ∧ x < n) (nd : xs.Nodup) (hl : xs.length = n) : ∀ k : Nat, k < n → xs.count (k : Int) = 1 := by
  have le : ∀ k : Nat, (xs.count (k : Int) : Int) ≤ 1 := fun k => by
    have := List.nodup_iff_count.mp nd (k : Int)
    omega
  have hs := hist_sum h
  have key : ∀ m : Nat, ∀ g : Nat → Int, (∀ k, g k ≤ 1) → ((List.range m).map g).sum ≤ m ∧ (((List.range m).map g).sum = m → ∀ k, k < m → g k = 1) := by
    intro m g hg
    induction m with
    | zero => exact ⟨by simp, fun _ k hk => by omega⟩
    | succ m ih =>
      rw [List.range_succ, List.map_append, List.sum_append]
      simp only [List.map_cons, List.map_nil, List.sum_cons, List.sum_nil]
      have := hg m
      refine ⟨by omega, fun e k hk => ?_⟩
      by_cases z : k = m
      · subst z; omega
      · exact ih.2 (by omega) k (by omega)
  intro k hk
  have := (key n (fun k => (xs.count (k : Int) : Int)) le).2 (by unfold hist at hs; rw [hs, hl]) k hk
  omega
theorem sum_all {n : Nat} {xs : List Int} (f : Int → Int) (h : ∀ x ∈ xs, 0 ≤ x ∧ x < n) (nd : xs.Nodup) (hl : xs.length = n) : (xs.map f).sum = ((List.range n).map fun (k : Nat) => f k).sum := by
  rw [sum_hist f h]
  congr 1
  refine List.map_congr_left fun k hk => ?_
  rw [count_one h nd hl k (List.mem_range.mp hk)]
  simp
/-- steps without a common divisor go through all -/
theorem steps_all {n S : Int} (h1 : 1 ≤ n) (hS : 0 ≤ S) (hg : Int.gcd n S = 1) : ((List.range n.toNat).map fun (b : Nat) => (b : Int) * S % n).Nodup := by
  have key : ∀ a b : Nat, a < b → b < n.toNat → ¬ ((a : Int) * S % n = (b : Int) * S % n) := by
    intro a b hab hb e
    have h2 : n ∣ (b : Int) * S - (a : Int) * S := by
      exact Int.dvd_of_emod_eq_zero (by rw [Int.sub_emod, e, Int.sub_self, Int.zero_emod])
    rw [← Int.sub_mul] at h2
    have h3 : n ∣ (b : Int) - a := by
      have h4 := Int.natAbs_dvd_natAbs.mpr h2
      rw [Int.natAbs_mul] at h4
      exact Int.natAbs_dvd_natAbs.mp (Nat.Coprime.dvd_of_dvd_mul_right (show Nat.gcd n.natAbs S.natAbs = 1 from hg) h4)
    have := Int.le_of_dvd (by omega) h3
    omega
  refine List.pairwise_map.mpr (List.pairwise_iff_getElem.mpr fun i j hi hj hij => ?_)
  simp only [List.getElem_range]
  simp only [List.length_range] at hj
  exact key i j hij hj
/-! the two ways of counting -/
theorem agree_eq {D n m : Int} {os us : List Int} {st sv : Int} (h1 : D ∣ n) (h2 : D ∣ m) : pairsD D (basR n os st) (basR m us sv) = agreeP D os st us sv := by
  unfold pairsD agreeP basR
  rw [List.flatMap_map]
  refine congrArg (fun f => os.flatMap f) (funext fun o => ?_)
  rw [List.map_map]
  refine List.map_congr_left fun u _ => ?_
  show ((st + o) % n - (sv + u) % m) % D = _
  rw [Int.sub_emod, Int.emod_emod_of_dvd _ h1, Int.emod_emod_of_dvd _ h2, ← Int.sub_emod]
  congr 1
  omega
theorem gcd_l (n m : Int) : ((Int.gcd n m : Nat) : Int) ∣ n := Int.gcd_dvd_left ..
theorem gcd_r (n m : Int) : ((Int.gcd n m : Nat) : Int) ∣ m := Int.gcd_dvd_right ..
theorem meet_eq {n m : Int} {os us : List Int} {st sv : Int} : meetL n os st m us sv = hist (Int.gcd n m) (agreeP (Int.gcd n m) os st us sv) := by
  unfold meetL
  rw [agree_eq (gcd_l n m) (gcd_r n m)]
theorem self_gcd {n : Int} (h : 1 ≤ n) : ((Int.gcd n n : Nat) : Int) = n ∧ Int.gcd n n = n.toNat := by
  rw [Int.gcd_self]
  omega
theorem agree_in {D : Int} {os us : List Int} {st sv : Int} (h : 0 < D) : ∀ x ∈ agreeP D os st us sv, 0 ≤ x ∧ x < D := by
  intro x hx
  obtain ⟨o, _, hx⟩ := List.mem_flatMap.mp hx
  obtain ⟨u, _, rfl⟩ := List.mem_map.mp hx
  exact ⟨Int.emod_nonneg _ (by omega), Int.emod_lt_of_pos _ h⟩
theorem agree_len {D : Int} {us : List Int} {st sv : Int} : ∀ {os : List Int}, (agreeP D os st us sv).length = os.length * us.length
  | [] => by simp [agreeP]
  | o :: os => by
    have ih := agree_len (D := D) (us := us) (st := st) (sv := sv) (os := os)
    unfold agreeP at ih ⊢
    rw [List.flatMap_cons, List.length_append, ih, List.length_map, List.length_cons, Nat.add_mul, Nat.one_mul, Nat.add_comm]
/-- how many pairs are together -/
theorem count_zero {n : Int} {a : Int} (ha : 0 ≤ a ∧ a < n) : ∀ {bs : List Int}, (∀ b ∈ bs, 0 ≤ b ∧ b < n) → (bs.map fun b => (a - b) % n).count 0 = bs.count a
  | [], _ => rfl
  | b :: bs, h => by
    have hb := h b List.mem_cons_self
    rw [List.map_cons, List.count_cons, List.count_cons, count_zero ha fun c hc => h c (List.mem_cons_of_mem _ hc)]
    have e : ((a - b) % n == 0) = (b == a) := by
      rw [Bool.eq_iff_iff, beq_iff_eq, beq_iff_eq]
      constructor
      · intro z
        have hd := Int.dvd_of_emod_eq_zero z
        by_cases c : 0 < a - b
        · have := Int.le_of_dvd c hd
          omega
        · by_cases c2 : 0 < b - a
          · have := Int.le_of_dvd c2 (by rw [show b - a = -(a - b) by omega]; exact Int.dvd_neg.mpr hd)
            omega
          · omega
      · intro z
        rw [z, Int.sub_self, Int.zero_emod]
    rw [e]
theorem pairs_zero {n : Int} {bs : List Int} (hb : ∀ b ∈ bs, 0 ≤ b ∧ b < n) : ∀ {as : List Int}, (∀ a ∈ as, 0 ≤ a ∧ a < n) → ((pairsD n as bs).count 0 : Int) = (as.map fun a => (bs.count a : Int)).sum
  | [], _ => rfl
  | a :: as, h => by
    have ih := pairs_zero hb (as := as) fun c hc => h c (List.mem_cons_of_mem _ hc)
    unfold pairsD at ih ⊢
    rw [List.flatMap_cons, List.count_append, count_zero (h a List.mem_cons_self) hb, List.map_cons, List.sum_cons, ← ih]
    omega
theorem prod_zero {n : Int} {os us : List Int} {st sv : Int} (h : 1 ≤ n) : prodS (basR n os st) (basR n us sv) n.toNat = ((agreeP n os st us sv).count 0 : Int) := by
  have ha := bas_in (os := os) (st := st) h
  have hb := bas_in (os := us) (st := sv) h
  rw [← agree_eq (Int.dvd_refl n) (Int.dvd_refl n), pairs_zero hb ha]
  have e : ((n.toNat : Nat) : Int) = n := by omega
  rw [sum_hist (n := n.toNat) _ (by rw [e]; exact ha)]
  rfl
/-- the sum over all blocks -/
theorem mul_sum (c : Int) {α : Type} (f : α → Int) : ∀ l : List α, (l.map fun x => c * f x).sum = c * (l.map f).sum
  | [] => by simp
  | x :: l => by
    rw [List.map_cons, List.map_cons, List.sum_cons, List.sum_cons, mul_sum c f l, Int.mul_add]
theorem range_get (M : List Int) : (List.range M.length).map (fun k => M.getD k 0) = M := by
  apply List.ext_getElem?
  intro i
  by_cases h : i < M.length
  · simp [h]
  · rw [List.getElem?_eq_none (by simpa using h), List.getElem?_eq_none (by omega)]
theorem phase_sum {n : Int} {M : List Int} {R S : Int} (h1 : 1 ≤ n) (hS : 0 ≤ S) (hg : Int.gcd n S = 1) (hM : M.length = n.toNat) : (phaseL n M R S).sum = R * M.sum := by
  unfold phaseL
  have e1 : (n / ((Int.gcd n S : Nat) : Int)).toNat = n.toNat := by rw [hg]; congr 1; omega
  rw [e1, mul_sum]
  congr 1
  have e2 : ((List.range n.toNat).map fun (b : Nat) => M.getD ((b : Int) * S % n).toNat 0) = ((List.range n.toNat).map fun (b : Nat) => (b : Int) * S % n).map fun x => M.getD x.toNat 0 := by rw [List.map_map]; rfl
  have en : ((n.toNat : Nat) : Int) = n := by omega
  rw [e2, sum_all (n := n.toNat) _ (fun x hx => ?_) (steps_all h1 hS hg) (by simp)]
  · simp only [Int.toNat_natCast]
    rw [← hM, range_get]
  · obtain ⟨b, _, rfl⟩ := List.mem_map.mp hx
    rw [en]
    exact ⟨Int.emod_nonneg _ (by omega), Int.emod_lt_of_pos _ (by omega)⟩
end B12


namespace B12
open PySem PySem.Spec PyProof.Rows L2 DL
theorem ten9 : (10 : Int) ^ (9 : Int).toNat = 1000000000 := by decide
theorem phase_len {n : Int} {M : List Int} {R S : Int} (h : 1 ≤ n) (h2 : n ≤ 240) : (phaseL n M R S).length ≤ 240 := by
  unfold phaseL
  rw [List.length_map, List.length_range]
  have := Int.ediv_le_self (a := n) ((Int.gcd n S : Nat) : Int) (by omega)
  omega
theorem rd_q4 {DD : DEnds} {a : Addr} {c0 c2 c4 c9 c10 c11 c12 c13 c14 c15 : C} {n : Int} {os us : List Int} {st sv S : Int} (ok : OkT n os st) (ok2 : OkT n us sv) (n2 : 2 ≤ n) (hS : 0 ≤ S ∧ S ≤ n - 1)
    (h : ∀ c13 c14 c15, DD.nx [c0, .s a, c2, .d (.int n), c4, .d (tT n os st), .d (tT n us sv), .d (.list (iL (hist n.toNat (agreeP n os st us sv)))), .d (.int S), c9, c10, c11, c12, c13, c14, c15, .no]) :
    d_law_q4 DD [c0, .s a, c2, .d (.int n), c4, .d (tT n os st), .d (tT n us sv), .d (.list (iL (hist n.toNat (agreeP n os st us sv)))), .d (.int S), c9, c10, c11, c12, c13, c14, c15, .no] := by
  have n3 := ok.n2
  have em : hist n.toNat (agreeP n os st us sv) = meetL n os st n us sv := by rw [meet_eq, (self_gcd ok.n1).1, (self_gcd ok.n1).2]
  have g0 : 0 < Int.gcd n S := Int.gcd_pos_of_ne_zero_left _ (by omega)
  have g1 : (Int.gcd n S : Int) ≤ n := Int.gcd_le_left _ (by omega)
  have d0 : 0 ≤ n / (Int.gcd n S : Int) := Int.ediv_nonneg (by omega) (by omega)
  have d1 : n / (Int.gcd n S : Int) ≤ n := Int.ediv_le_self _ (by omega)
  simp (config := { maxSteps := 4000000 }) only [d_law_q4, dRaise1, dXCall, dXApp, dCaught, dIsE, dXat, dNonE, dRev, dParV, dCallV, dStInt, dStTurn, dStNext, dMixed, dWhileS, dForS, dLcS, dStCells, dStPut, dAppPop, dBegun, dSeq, dCut, dNext, dFrzS, dSet, dSetN, dPar, dParN, dParM, dParNN, dDrop, dRet, dRetN, dIfS, dNever, dBreak, dCont, dAug, dApp, dPutL, dAugL, dIxO, dCBO, dOpO, dOpO2, dTupO, dWhile, dgName, dgNil, dgCons, dgTup, dAsg, dSeqI, dScrI, dRng1, dRng2, dRngN, dZip, dEnum, dFor, dLc, dLc2, dYes, dFrz, dVar, dC, dOp, dOpN, dUn, dChain, dNil, dCons, dTup, dCB, dCBN, dCall, dB, dAnd, dOr, dNot, dAndV, dOrV, dNotV, dIf, dNone, dSome, dSl, dIsi, dIsi2, dListR1, dListR2, dLenScr, dCallS, fLt, fLe, fGt, fGe, fSub, fFdiv, fMod, fPow, fIMul, fInt, fInt0, fCmp, fEq, fAdd, fMul, fRepN, fCatN, fNeg, fIs, fIn, flatD, fIx, fSl, fLen, fAbs, fIntOf, fTwo, fTupOf, fListOf, fIpAdd, DL.seen, ty_int_non, ty_int_bool, ty_int_int, ty_int_str, ty_int_list, ty_int_tuple, ty_bool_non, ty_bool_bool, ty_bool_int, ty_bool_str, ty_bool_list, ty_bool_tuple, ty_str_non, ty_str_bool, ty_str_int, ty_str_str, ty_str_list, ty_str_tuple, ty_list_non, ty_list_bool, ty_list_int, ty_list_str, ty_list_list, ty_list_tuple, ty_tuple_non, ty_tuple_bool, ty_tuple_int, ty_tuple_str, ty_tuple_list, ty_tuple_tuple, ty_dict_non, ty_dict_bool, ty_dict_int, ty_dict_str, ty_dict_list, ty_dict_tuple, Bool.not_false, Bool.not_true, List.getElem?_cons_zero, List.getElem?_cons_succ, List.set_cons_zero, List.set_cons_succ, br_t, br_f, wipeE, ↓reduceIte]
  refine ⟨_, rfl, by decide, by decide, fun x hx => ?_⟩
  have hx' : ∃ room : Int, x = .int room ∧ 0 < room ∧ room ≤ 1000 := by
    simp only [List.mem_cons, List.not_mem_nil, or_false] at hx
    rcases hx with rfl | rfl
    · exact ⟨3, rfl, by decide, by decide⟩
    · exact ⟨1000, rfl, by decide, by decide⟩
  obtain ⟨room, rfl, r0, r1⟩ := hx'
  refine ⟨room, rfl, r0, by omega, fun r q0 q1 => ?_⟩
  simp (config := { maxSteps := 4000000 }) only [d_law_q3, dRaise1, dXCall, dXApp, dCaught, dIsE, dXat, dNonE, dRev, dParV, dCallV, dStInt, dStTurn, dStNext, dMixed, dWhileS, dForS, dLcS, dStCells, dStPut, dAppPop, dBegun, dSeq, dCut, dNext, dFrzS, dSet, dSetN, dPar, dParN, dParM, dParNN, dDrop, dRet, dRetN, dIfS, dNever, dBreak, dCont, dAug, dApp, dPutL, dAugL, dIxO, dCBO, dOpO, dOpO2, dTupO, dWhile, dgName, dgNil, dgCons, dgTup, dAsg, dSeqI, dScrI, dRng1, dRng2, dRngN, dZip, dEnum, dFor, dLc, dLc2, dYes, dFrz, dVar, dC, dOp, dOpN, dUn, dChain, dNil, dCons, dTup, dCB, dCBN, dCall, dB, dAnd, dOr, dNot, dAndV, dOrV, dNotV, dIf, dNone, dSome, dSl, dIsi, dIsi2, dListR1, dListR2, dLenScr, dCallS, fLt, fLe, fGt, fGe, fSub, fFdiv, fMod, fPow, fIMul, fInt, fInt0, fCmp, fEq, fAdd, fMul, fRepN, fCatN, fNeg, fIs, fIn, flatD, fIx, fSl, fLen, fAbs, fIntOf, fTwo, fTupOf, fListOf, fIpAdd, DL.seen, ty_int_non, ty_int_bool, ty_int_int, ty_int_str, ty_int_list, ty_int_tuple, ty_bool_non, ty_bool_bool, ty_bool_int, ty_bool_str, ty_bool_list, ty_bool_tuple, ty_str_non, ty_str_bool, ty_str_int, ty_str_str, ty_str_list, ty_str_tuple, ty_list_non, ty_list_bool, ty_list_int, ty_list_str, ty_list_list, ty_list_tuple, ty_tuple_non, ty_tuple_bool, ty_tuple_int, ty_tuple_str, ty_tuple_list, ty_tuple_tuple, ty_dict_non, ty_dict_bool, ty_dict_int, ty_dict_str, ty_dict_list, ty_dict_tuple, Bool.not_false, Bool.not_true, List.getElem?_cons_zero, List.getElem?_cons_succ, List.set_cons_zero, List.set_cons_succ, br_t, br_f, wipeE, ↓reduceIte]
  have key : d_law_q2 DD [c0, .s a, c2, .d (.int n), c4, .d (tT n os st), .d (tT n us sv), .d (.list (iL (hist n.toNat (agreeP n os st us sv)))), .d (.int S), c9, c10, c11, c12, .d (.int (1 + r)), .d (.int (n / (Int.gcd n S : Int))), c15, .no] := by
    simp (config := { maxSteps := 4000000 }) only [d_law_q2, dRaise1, dXCall, dXApp, dCaught, dIsE, dXat, dNonE, dRev, dParV, dCallV, dStInt, dStTurn, dStNext, dMixed, dWhileS, dForS, dLcS, dStCells, dStPut, dAppPop, dBegun, dSeq, dCut, dNext, dFrzS, dSet, dSetN, dPar, dParN, dParM, dParNN, dDrop, dRet, dRetN, dIfS, dNever, dBreak, dCont, dAug, dApp, dPutL, dAugL, dIxO, dCBO, dOpO, dOpO2, dTupO, dWhile, dgName, dgNil, dgCons, dgTup, dAsg, dSeqI, dScrI, dRng1, dRng2, dRngN, dZip, dEnum, dFor, dLc, dLc2, dYes, dFrz, dVar, dC, dOp, dOpN, dUn, dChain, dNil, dCons, dTup, dCB, dCBN, dCall, dB, dAnd, dOr, dNot, dAndV, dOrV, dNotV, dIf, dNone, dSome, dSl, dIsi, dIsi2, dListR1, dListR2, dLenScr, dCallS, fLt, fLe, fGt, fGe, fSub, fFdiv, fMod, fPow, fIMul, fInt, fInt0, fCmp, fEq, fAdd, fMul, fRepN, fCatN, fNeg, fIs, fIn, flatD, fIx, fSl, fLen, fAbs, fIntOf, fTwo, fTupOf, fListOf, fIpAdd, DL.seen, ty_int_non, ty_int_bool, ty_int_int, ty_int_str, ty_int_list, ty_int_tuple, ty_bool_non, ty_bool_bool, ty_bool_int, ty_bool_str, ty_bool_list, ty_bool_tuple, ty_str_non, ty_str_bool, ty_str_int, ty_str_str, ty_str_list, ty_str_tuple, ty_list_non, ty_list_bool, ty_list_int, ty_list_str, ty_list_list, ty_list_tuple, ty_tuple_non, ty_tuple_bool, ty_tuple_int, ty_tuple_str, ty_tuple_list, ty_tuple_tuple, ty_dict_non, ty_dict_bool, ty_dict_int, ty_dict_str, ty_dict_list, ty_dict_tuple, Bool.not_false, Bool.not_true, List.getElem?_cons_zero, List.getElem?_cons_succ, List.set_cons_zero, List.set_cons_succ, br_t, br_f, wipeE, ↓reduceIte]
    refine ⟨rfl, ⟨by omega, by omega⟩, fun i acc => acc = (iL (phaseL n (meetL n os st n us sv) (1 + r) S)).take i, take_nil0, by rw [rgD_len]; exact line_big (by omega), fun i x acc hx hw => ?_, fun acc hw => ?_⟩
    · obtain ⟨hi, rfl⟩ := rgD_at hx
      rw [Int.zero_add]
      simp (config := { maxSteps := 4000000 }) only [dRaise1, dXCall, dXApp, dCaught, dIsE, dXat, dNonE, dRev, dParV, dCallV, dStInt, dStTurn, dStNext, dMixed, dWhileS, dForS, dLcS, dStCells, dStPut, dAppPop, dBegun, dSeq, dCut, dNext, dFrzS, dSet, dSetN, dPar, dParN, dParM, dParNN, dDrop, dRet, dRetN, dIfS, dNever, dBreak, dCont, dAug, dApp, dPutL, dAugL, dIxO, dCBO, dOpO, dOpO2, dTupO, dWhile, dgName, dgNil, dgCons, dgTup, dAsg, dSeqI, dScrI, dRng1, dRng2, dRngN, dZip, dEnum, dFor, dLc, dLc2, dYes, dFrz, dVar, dC, dOp, dOpN, dUn, dChain, dNil, dCons, dTup, dCB, dCBN, dCall, dB, dAnd, dOr, dNot, dAndV, dOrV, dNotV, dIf, dNone, dSome, dSl, dIsi, dIsi2, dListR1, dListR2, dLenScr, dCallS, fLt, fLe, fGt, fGe, fSub, fFdiv, fMod, fPow, fIMul, fInt, fInt0, fCmp, fEq, fAdd, fMul, fRepN, fCatN, fNeg, fIs, fIn, flatD, fIx, fSl, fLen, fAbs, fIntOf, fTwo, fTupOf, fListOf, fIpAdd, DL.seen, ty_int_non, ty_int_bool, ty_int_int, ty_int_str, ty_int_list, ty_int_tuple, ty_bool_non, ty_bool_bool, ty_bool_int, ty_bool_str, ty_bool_list, ty_bool_tuple, ty_str_non, ty_str_bool, ty_str_int, ty_str_str, ty_str_list, ty_str_tuple, ty_list_non, ty_list_bool, ty_list_int, ty_list_str, ty_list_list, ty_list_tuple, ty_tuple_non, ty_tuple_bool, ty_tuple_int, ty_tuple_str, ty_tuple_list, ty_tuple_tuple, ty_dict_non, ty_dict_bool, ty_dict_int, ty_dict_str, ty_dict_list, ty_dict_tuple, Bool.not_false, Bool.not_true, List.getElem?_cons_zero, List.getElem?_cons_succ, List.set_cons_zero, List.set_cons_succ, br_t, br_f, wipeE, ↓reduceIte]
      have m0 := Int.emod_nonneg ((i : Int) * S) (show n ≠ 0 by omega)
      have m1 := Int.emod_lt_of_pos ((i : Int) * S) (show 0 < n by omega)
      refine ⟨.inl (.inr ⟨by omega, by omega⟩), by omega, _, by rw [em]; exact atI_int m0 (getD_at (by rw [meetL_len ok.n1]; omega)), ?_⟩
      simp (config := { maxSteps := 4000000 }) only [dRaise1, dXCall, dXApp, dCaught, dIsE, dXat, dNonE, dRev, dParV, dCallV, dStInt, dStTurn, dStNext, dMixed, dWhileS, dForS, dLcS, dStCells, dStPut, dAppPop, dBegun, dSeq, dCut, dNext, dFrzS, dSet, dSetN, dPar, dParN, dParM, dParNN, dDrop, dRet, dRetN, dIfS, dNever, dBreak, dCont, dAug, dApp, dPutL, dAugL, dIxO, dCBO, dOpO, dOpO2, dTupO, dWhile, dgName, dgNil, dgCons, dgTup, dAsg, dSeqI, dScrI, dRng1, dRng2, dRngN, dZip, dEnum, dFor, dLc, dLc2, dYes, dFrz, dVar, dC, dOp, dOpN, dUn, dChain, dNil, dCons, dTup, dCB, dCBN, dCall, dB, dAnd, dOr, dNot, dAndV, dOrV, dNotV, dIf, dNone, dSome, dSl, dIsi, dIsi2, dListR1, dListR2, dLenScr, dCallS, fLt, fLe, fGt, fGe, fSub, fFdiv, fMod, fPow, fIMul, fInt, fInt0, fCmp, fEq, fAdd, fMul, fRepN, fCatN, fNeg, fIs, fIn, flatD, fIx, fSl, fLen, fAbs, fIntOf, fTwo, fTupOf, fListOf, fIpAdd, DL.seen, ty_int_non, ty_int_bool, ty_int_int, ty_int_str, ty_int_list, ty_int_tuple, ty_bool_non, ty_bool_bool, ty_bool_int, ty_bool_str, ty_bool_list, ty_bool_tuple, ty_str_non, ty_str_bool, ty_str_int, ty_str_str, ty_str_list, ty_str_tuple, ty_list_non, ty_list_bool, ty_list_int, ty_list_str, ty_list_list, ty_list_tuple, ty_tuple_non, ty_tuple_bool, ty_tuple_int, ty_tuple_str, ty_tuple_list, ty_tuple_tuple, ty_dict_non, ty_dict_bool, ty_dict_int, ty_dict_str, ty_dict_list, ty_dict_tuple, Bool.not_false, Bool.not_true, List.getElem?_cons_zero, List.getElem?_cons_succ, List.set_cons_zero, List.set_cons_succ, br_t, br_f, wipeE, ↓reduceIte]
      refine ⟨.inl (.inl ⟨by omega, by omega⟩), ?_⟩
      rw [hw]
      refine take_push ?_
      unfold phaseL
      rw [iL, List.map_map, List.getElem?_map, List.getElem?_range hi]
      rfl
    · rw [hw, take_all (by rw [rgD_len, iL_len, phaseL, List.length_map, List.length_range])]
      simp (config := { maxSteps := 4000000 }) only [d_law_q1, dRaise1, dXCall, dXApp, dCaught, dIsE, dXat, dNonE, dRev, dParV, dCallV, dStInt, dStTurn, dStNext, dMixed, dWhileS, dForS, dLcS, dStCells, dStPut, dAppPop, dBegun, dSeq, dCut, dNext, dFrzS, dSet, dSetN, dPar, dParN, dParM, dParNN, dDrop, dRet, dRetN, dIfS, dNever, dBreak, dCont, dAug, dApp, dPutL, dAugL, dIxO, dCBO, dOpO, dOpO2, dTupO, dWhile, dgName, dgNil, dgCons, dgTup, dAsg, dSeqI, dScrI, dRng1, dRng2, dRngN, dZip, dEnum, dFor, dLc, dLc2, dYes, dFrz, dVar, dC, dOp, dOpN, dUn, dChain, dNil, dCons, dTup, dCB, dCBN, dCall, dB, dAnd, dOr, dNot, dAndV, dOrV, dNotV, dIf, dNone, dSome, dSl, dIsi, dIsi2, dListR1, dListR2, dLenScr, dCallS, fLt, fLe, fGt, fGe, fSub, fFdiv, fMod, fPow, fIMul, fInt, fInt0, fCmp, fEq, fAdd, fMul, fRepN, fCatN, fNeg, fIs, fIn, flatD, fIx, fSl, fLen, fAbs, fIntOf, fTwo, fTupOf, fListOf, fIpAdd, DL.seen, ty_int_non, ty_int_bool, ty_int_int, ty_int_str, ty_int_list, ty_int_tuple, ty_bool_non, ty_bool_bool, ty_bool_int, ty_bool_str, ty_bool_list, ty_bool_tuple, ty_str_non, ty_str_bool, ty_str_int, ty_str_str, ty_str_list, ty_str_tuple, ty_list_non, ty_list_bool, ty_list_int, ty_list_str, ty_list_list, ty_list_tuple, ty_tuple_non, ty_tuple_bool, ty_tuple_int, ty_tuple_str, ty_tuple_list, ty_tuple_tuple, ty_dict_non, ty_dict_bool, ty_dict_int, ty_dict_str, ty_dict_list, ty_dict_tuple, Bool.not_false, Bool.not_true, List.getElem?_cons_zero, List.getElem?_cons_succ, List.set_cons_zero, List.set_cons_succ, br_t, br_f, wipeE, ↓reduceIte]
      refine ⟨n, os, st, us, sv, 1 + r, S, rfl, ok, ok2, by omega, hS, ?_⟩
      simp (config := { maxSteps := 4000000 }) only [dRaise1, dXCall, dXApp, dCaught, dIsE, dXat, dNonE, dRev, dParV, dCallV, dStInt, dStTurn, dStNext, dMixed, dWhileS, dForS, dLcS, dStCells, dStPut, dAppPop, dBegun, dSeq, dCut, dNext, dFrzS, dSet, dSetN, dPar, dParN, dParM, dParNN, dDrop, dRet, dRetN, dIfS, dNever, dBreak, dCont, dAug, dApp, dPutL, dAugL, dIxO, dCBO, dOpO, dOpO2, dTupO, dWhile, dgName, dgNil, dgCons, dgTup, dAsg, dSeqI, dScrI, dRng1, dRng2, dRngN, dZip, dEnum, dFor, dLc, dLc2, dYes, dFrz, dVar, dC, dOp, dOpN, dUn, dChain, dNil, dCons, dTup, dCB, dCBN, dCall, dB, dAnd, dOr, dNot, dAndV, dOrV, dNotV, dIf, dNone, dSome, dSl, dIsi, dIsi2, dListR1, dListR2, dLenScr, dCallS, fLt, fLe, fGt, fGe, fSub, fFdiv, fMod, fPow, fIMul, fInt, fInt0, fCmp, fEq, fAdd, fMul, fRepN, fCatN, fNeg, fIs, fIn, flatD, fIx, fSl, fLen, fAbs, fIntOf, fTwo, fTupOf, fListOf, fIpAdd, DL.seen, ty_int_non, ty_int_bool, ty_int_int, ty_int_str, ty_int_list, ty_int_tuple, ty_bool_non, ty_bool_bool, ty_bool_int, ty_bool_str, ty_bool_list, ty_bool_tuple, ty_str_non, ty_str_bool, ty_str_int, ty_str_str, ty_str_list, ty_str_tuple, ty_list_non, ty_list_bool, ty_list_int, ty_list_str, ty_list_list, ty_list_tuple, ty_tuple_non, ty_tuple_bool, ty_tuple_int, ty_tuple_str, ty_tuple_list, ty_tuple_tuple, ty_dict_non, ty_dict_bool, ty_dict_int, ty_dict_str, ty_dict_list, ty_dict_tuple, Bool.not_false, Bool.not_true, List.getElem?_cons_zero, List.getElem?_cons_succ, List.set_cons_zero, List.set_cons_succ, br_t, br_f, wipeE, ↓reduceIte]
      have pl := phase_len (M := meetL n os st n us sv) (R := 1 + r) (S := S) ok.n1 n3
      refine ⟨_, rfl, ok_ints 5 (by omega), ?_⟩
      simp (config := { maxSteps := 4000000 }) only [d_law_q0, dRaise1, dXCall, dXApp, dCaught, dIsE, dXat, dNonE, dRev, dParV, dCallV, dStInt, dStTurn, dStNext, dMixed, dWhileS, dForS, dLcS, dStCells, dStPut, dAppPop, dBegun, dSeq, dCut, dNext, dFrzS, dSet, dSetN, dPar, dParN, dParM, dParNN, dDrop, dRet, dRetN, dIfS, dNever, dBreak, dCont, dAug, dApp, dPutL, dAugL, dIxO, dCBO, dOpO, dOpO2, dTupO, dWhile, dgName, dgNil, dgCons, dgTup, dAsg, dSeqI, dScrI, dRng1, dRng2, dRngN, dZip, dEnum, dFor, dLc, dLc2, dYes, dFrz, dVar, dC, dOp, dOpN, dUn, dChain, dNil, dCons, dTup, dCB, dCBN, dCall, dB, dAnd, dOr, dNot, dAndV, dOrV, dNotV, dIf, dNone, dSome, dSl, dIsi, dIsi2, dListR1, dListR2, dLenScr, dCallS, fLt, fLe, fGt, fGe, fSub, fFdiv, fMod, fPow, fIMul, fInt, fInt0, fCmp, fEq, fAdd, fMul, fRepN, fCatN, fNeg, fIs, fIn, flatD, fIx, fSl, fLen, fAbs, fIntOf, fTwo, fTupOf, fListOf, fIpAdd, DL.seen, ty_int_non, ty_int_bool, ty_int_int, ty_int_str, ty_int_list, ty_int_tuple, ty_bool_non, ty_bool_bool, ty_bool_int, ty_bool_str, ty_bool_list, ty_bool_tuple, ty_str_non, ty_str_bool, ty_str_int, ty_str_str, ty_str_list, ty_str_tuple, ty_list_non, ty_list_bool, ty_list_int, ty_list_str, ty_list_list, ty_list_tuple, ty_tuple_non, ty_tuple_bool, ty_tuple_int, ty_tuple_str, ty_tuple_list, ty_tuple_tuple, ty_dict_non, ty_dict_bool, ty_dict_int, ty_dict_str, ty_dict_list, ty_dict_tuple, Bool.not_false, Bool.not_true, List.getElem?_cons_zero, List.getElem?_cons_succ, List.set_cons_zero, List.set_cons_succ, br_t, br_f, wipeE, ↓reduceIte]
      refine ⟨fun e => ⟨n, S, rfl, by omega, by omega, ?_⟩, fun e => h _ _ _⟩
      simp (config := { maxSteps := 4000000 }) only [dRaise1, dXCall, dXApp, dCaught, dIsE, dXat, dNonE, dRev, dParV, dCallV, dStInt, dStTurn, dStNext, dMixed, dWhileS, dForS, dLcS, dStCells, dStPut, dAppPop, dBegun, dSeq, dCut, dNext, dFrzS, dSet, dSetN, dPar, dParN, dParM, dParNN, dDrop, dRet, dRetN, dIfS, dNever, dBreak, dCont, dAug, dApp, dPutL, dAugL, dIxO, dCBO, dOpO, dOpO2, dTupO, dWhile, dgName, dgNil, dgCons, dgTup, dAsg, dSeqI, dScrI, dRng1, dRng2, dRngN, dZip, dEnum, dFor, dLc, dLc2, dYes, dFrz, dVar, dC, dOp, dOpN, dUn, dChain, dNil, dCons, dTup, dCB, dCBN, dCall, dB, dAnd, dOr, dNot, dAndV, dOrV, dNotV, dIf, dNone, dSome, dSl, dIsi, dIsi2, dListR1, dListR2, dLenScr, dCallS, fLt, fLe, fGt, fGe, fSub, fFdiv, fMod, fPow, fIMul, fInt, fInt0, fCmp, fEq, fAdd, fMul, fRepN, fCatN, fNeg, fIs, fIn, flatD, fIx, fSl, fLen, fAbs, fIntOf, fTwo, fTupOf, fListOf, fIpAdd, DL.seen, ty_int_non, ty_int_bool, ty_int_int, ty_int_str, ty_int_list, ty_int_tuple, ty_bool_non, ty_bool_bool, ty_bool_int, ty_bool_str, ty_bool_list, ty_bool_tuple, ty_str_non, ty_str_bool, ty_str_int, ty_str_str, ty_str_list, ty_str_tuple, ty_list_non, ty_list_bool, ty_list_int, ty_list_str, ty_list_list, ty_list_tuple, ty_tuple_non, ty_tuple_bool, ty_tuple_int, ty_tuple_str, ty_tuple_list, ty_tuple_tuple, ty_dict_non, ty_dict_bool, ty_dict_int, ty_dict_str, ty_dict_list, ty_dict_tuple, Bool.not_false, Bool.not_true, List.getElem?_cons_zero, List.getElem?_cons_succ, List.set_cons_zero, List.set_cons_succ, br_t, br_f, wipeE, ↓reduceIte]
      refine ⟨fun e2 => ⟨_, rfl, ?_⟩, fun e2 => h _ _ _⟩
      have hg : Int.gcd n S = 1 := by
        have := of_decide_eq_true e2
        omega
      have l1 := ok.len
      have l2 := ok2.len
      refine ⟨_, atI1, ?_⟩
      simp (config := { maxSteps := 4000000 }) only [dRaise1, dXCall, dXApp, dCaught, dIsE, dXat, dNonE, dRev, dParV, dCallV, dStInt, dStTurn, dStNext, dMixed, dWhileS, dForS, dLcS, dStCells, dStPut, dAppPop, dBegun, dSeq, dCut, dNext, dFrzS, dSet, dSetN, dPar, dParN, dParM, dParNN, dDrop, dRet, dRetN, dIfS, dNever, dBreak, dCont, dAug, dApp, dPutL, dAugL, dIxO, dCBO, dOpO, dOpO2, dTupO, dWhile, dgName, dgNil, dgCons, dgTup, dAsg, dSeqI, dScrI, dRng1, dRng2, dRngN, dZip, dEnum, dFor, dLc, dLc2, dYes, dFrz, dVar, dC, dOp, dOpN, dUn, dChain, dNil, dCons, dTup, dCB, dCBN, dCall, dB, dAnd, dOr, dNot, dAndV, dOrV, dNotV, dIf, dNone, dSome, dSl, dIsi, dIsi2, dListR1, dListR2, dLenScr, dCallS, fLt, fLe, fGt, fGe, fSub, fFdiv, fMod, fPow, fIMul, fInt, fInt0, fCmp, fEq, fAdd, fMul, fRepN, fCatN, fNeg, fIs, fIn, flatD, fIx, fSl, fLen, fAbs, fIntOf, fTwo, fTupOf, fListOf, fIpAdd, DL.seen, ty_int_non, ty_int_bool, ty_int_int, ty_int_str, ty_int_list, ty_int_tuple, ty_bool_non, ty_bool_bool, ty_bool_int, ty_bool_str, ty_bool_list, ty_bool_tuple, ty_str_non, ty_str_bool, ty_str_int, ty_str_str, ty_str_list, ty_str_tuple, ty_list_non, ty_list_bool, ty_list_int, ty_list_str, ty_list_list, ty_list_tuple, ty_tuple_non, ty_tuple_bool, ty_tuple_int, ty_tuple_str, ty_tuple_list, ty_tuple_tuple, ty_dict_non, ty_dict_bool, ty_dict_int, ty_dict_str, ty_dict_list, ty_dict_tuple, Bool.not_false, Bool.not_true, List.getElem?_cons_zero, List.getElem?_cons_succ, List.set_cons_zero, List.set_cons_succ, br_t, br_f, wipeE, ↓reduceIte]
      rw [iL_len]
      refine ⟨.inl (.inl ⟨by omega, by omega⟩), _, atI1, ?_⟩
      simp (config := { maxSteps := 4000000 }) only [dRaise1, dXCall, dXApp, dCaught, dIsE, dXat, dNonE, dRev, dParV, dCallV, dStInt, dStTurn, dStNext, dMixed, dWhileS, dForS, dLcS, dStCells, dStPut, dAppPop, dBegun, dSeq, dCut, dNext, dFrzS, dSet, dSetN, dPar, dParN, dParM, dParNN, dDrop, dRet, dRetN, dIfS, dNever, dBreak, dCont, dAug, dApp, dPutL, dAugL, dIxO, dCBO, dOpO, dOpO2, dTupO, dWhile, dgName, dgNil, dgCons, dgTup, dAsg, dSeqI, dScrI, dRng1, dRng2, dRngN, dZip, dEnum, dFor, dLc, dLc2, dYes, dFrz, dVar, dC, dOp, dOpN, dUn, dChain, dNil, dCons, dTup, dCB, dCBN, dCall, dB, dAnd, dOr, dNot, dAndV, dOrV, dNotV, dIf, dNone, dSome, dSl, dIsi, dIsi2, dListR1, dListR2, dLenScr, dCallS, fLt, fLe, fGt, fGe, fSub, fFdiv, fMod, fPow, fIMul, fInt, fInt0, fCmp, fEq, fAdd, fMul, fRepN, fCatN, fNeg, fIs, fIn, flatD, fIx, fSl, fLen, fAbs, fIntOf, fTwo, fTupOf, fListOf, fIpAdd, DL.seen, ty_int_non, ty_int_bool, ty_int_int, ty_int_str, ty_int_list, ty_int_tuple, ty_bool_non, ty_bool_bool, ty_bool_int, ty_bool_str, ty_bool_list, ty_bool_tuple, ty_str_non, ty_str_bool, ty_str_int, ty_str_str, ty_str_list, ty_str_tuple, ty_list_non, ty_list_bool, ty_list_int, ty_list_str, ty_list_list, ty_list_tuple, ty_tuple_non, ty_tuple_bool, ty_tuple_int, ty_tuple_str, ty_tuple_list, ty_tuple_tuple, ty_dict_non, ty_dict_bool, ty_dict_int, ty_dict_str, ty_dict_list, ty_dict_tuple, Bool.not_false, Bool.not_true, List.getElem?_cons_zero, List.getElem?_cons_succ, List.set_cons_zero, List.set_cons_succ, br_t, br_f, wipeE, ↓reduceIte]
      rw [iL_len]
      refine ⟨.inl (.inr ⟨by omega, by omega⟩), ?_⟩
      have es : (phaseL n (meetL n os st n us sv) (1 + r) S).sum = (1 + r) * os.length * us.length := by
        rw [phase_sum ok.n1 hS.1 hg (meetL_len ok.n1), ← em, hist_sum (fun x hx => ?_), agree_len]
        · rw [Int.mul_assoc]
          rfl
        · have := agree_in (by omega) x hx
          omega
      refine .no ?_ (h _ _ _)
      rw [decide_eq_true es]
      rfl
  refine ⟨fun e => ⟨n, S, rfl, by omega, by omega, log_small (by omega) (by omega), key⟩, fun e => ?_⟩
  have s0 : S = 0 := by
    have := of_decide_eq_false e
    omega
  subst s0
  have e1 : n / ((Int.gcd n 0 : Nat) : Int) = 1 := by
    rw [Int.gcd_zero, show ((n.natAbs : Nat) : Int) = n by omega]
    exact Int.ediv_self (by omega)
  rw [e1] at key
  exact key
end B12


namespace B12
open PySem PySem.Spec PyProof.Rows L2 DL
theorem ok_of_ring {n c : Int} {os : List Int} {st : Int} (h1 : 1 ≤ n) (h2 : n ≤ 240) (hc : c ≤ n) (r : Ring c os) (ne : os ≠ []) (hl : os.length ≤ 1000) (s0 : 0 ≤ st) (s1 : st < 1000000000) : OkT n os st :=
  ⟨h1, h2, s0, by omega, ne, hl, fun o ho => by have := r.lo o ho; omega, r.inc⟩
theorem pow9 : CPow 10 9 := ⟨by decide, by decide, by decide⟩
theorem rd_q5 {mg : Str → Option Value} {T D : Addr} (hD : mg "BadTurning" = some (.ref D)) {DD : DEnds} {c0 c1 c2 c4 c5 c6 c7 c8 c10 c11 c12 c13 c14 c15 c16 : C} {n m : Int} (hw : m = n ∨ c12 = .e D [("index", .int 1)])
    (h : DD.nx [c0, c1, c2, .d (.int n), c4, c5, c6, c7, c8, .d (.int m), c10, c11, c12, c13, c14, c15, c16]) :
    d_law_q5 mg T DD [c0, c1, c2, .d (.int n), c4, c5, c6, c7, c8, .d (.int m), c10, c11, c12, c13, c14, c15, c16] := by
  simp (config := { maxSteps := 4000000 }) only [d_law_q5, dRaise1, dXCall, dXApp, dCaught, dIsE, dXat, dNonE, dRev, dParV, dCallV, dStInt, dStTurn, dStNext, dMixed, dWhileS, dForS, dLcS, dStCells, dStPut, dAppPop, dBegun, dSeq, dCut, dNext, dFrzS, dSet, dSetN, dPar, dParN, dParM, dParNN, dDrop, dRet, dRetN, dIfS, dNever, dBreak, dCont, dAug, dApp, dPutL, dAugL, dIxO, dCBO, dOpO, dOpO2, dTupO, dWhile, dgName, dgNil, dgCons, dgTup, dAsg, dSeqI, dScrI, dRng1, dRng2, dRngN, dZip, dEnum, dFor, dLc, dLc2, dYes, dFrz, dVar, dC, dOp, dOpN, dUn, dChain, dNil, dCons, dTup, dCB, dCBN, dCall, dB, dAnd, dOr, dNot, dAndV, dOrV, dNotV, dIf, dNone, dSome, dSl, dIsi, dIsi2, dListR1, dListR2, dLenScr, dCallS, fLt, fLe, fGt, fGe, fSub, fFdiv, fMod, fPow, fIMul, fInt, fInt0, fCmp, fEq, fAdd, fMul, fRepN, fCatN, fNeg, fIs, fIn, flatD, fIx, fSl, fLen, fAbs, fIntOf, fTwo, fTupOf, fListOf, fIpAdd, DL.seen, ty_int_non, ty_int_bool, ty_int_int, ty_int_str, ty_int_list, ty_int_tuple, ty_bool_non, ty_bool_bool, ty_bool_int, ty_bool_str, ty_bool_list, ty_bool_tuple, ty_str_non, ty_str_bool, ty_str_int, ty_str_str, ty_str_list, ty_str_tuple, ty_list_non, ty_list_bool, ty_list_int, ty_list_str, ty_list_list, ty_list_tuple, ty_tuple_non, ty_tuple_bool, ty_tuple_int, ty_tuple_str, ty_tuple_list, ty_tuple_tuple, ty_dict_non, ty_dict_bool, ty_dict_int, ty_dict_str, ty_dict_list, ty_dict_tuple, Bool.not_false, Bool.not_true, List.getElem?_cons_zero, List.getElem?_cons_succ, List.set_cons_zero, List.set_cons_succ, br_t, br_f, wipeE, ↓reduceIte]
  refine ⟨fun e => ?_, fun e => h⟩
  have e' : m ≠ n := by
    intro z
    subst z
    simp at e
  rcases hw with z | rfl
  · exact absurd z e'
  refine ⟨true, ⟨hD, rfl⟩, ?_⟩
  simp (config := { maxSteps := 4000000 }) only [dRaise1, dXCall, dXApp, dCaught, dIsE, dXat, dNonE, dRev, dParV, dCallV, dStInt, dStTurn, dStNext, dMixed, dWhileS, dForS, dLcS, dStCells, dStPut, dAppPop, dBegun, dSeq, dCut, dNext, dFrzS, dSet, dSetN, dPar, dParN, dParM, dParNN, dDrop, dRet, dRetN, dIfS, dNever, dBreak, dCont, dAug, dApp, dPutL, dAugL, dIxO, dCBO, dOpO, dOpO2, dTupO, dWhile, dgName, dgNil, dgCons, dgTup, dAsg, dSeqI, dScrI, dRng1, dRng2, dRngN, dZip, dEnum, dFor, dLc, dLc2, dYes, dFrz, dVar, dC, dOp, dOpN, dUn, dChain, dNil, dCons, dTup, dCB, dCBN, dCall, dB, dAnd, dOr, dNot, dAndV, dOrV, dNotV, dIf, dNone, dSome, dSl, dIsi, dIsi2, dListR1, dListR2, dLenScr, dCallS, fLt, fLe, fGt, fGe, fSub, fFdiv, fMod, fPow, fIMul, fInt, fInt0, fCmp, fEq, fAdd, fMul, fRepN, fCatN, fNeg, fIs, fIn, flatD, fIx, fSl, fLen, fAbs, fIntOf, fTwo, fTupOf, fListOf, fIpAdd, DL.seen, ty_int_non, ty_int_bool, ty_int_int, ty_int_str, ty_int_list, ty_int_tuple, ty_bool_non, ty_bool_bool, ty_bool_int, ty_bool_str, ty_bool_list, ty_bool_tuple, ty_str_non, ty_str_bool, ty_str_int, ty_str_str, ty_str_list, ty_str_tuple, ty_list_non, ty_list_bool, ty_list_int, ty_list_str, ty_list_list, ty_list_tuple, ty_tuple_non, ty_tuple_bool, ty_tuple_int, ty_tuple_str, ty_tuple_list, ty_tuple_tuple, ty_dict_non, ty_dict_bool, ty_dict_int, ty_dict_str, ty_dict_list, ty_dict_tuple, Bool.not_false, Bool.not_true, List.getElem?_cons_zero, List.getElem?_cons_succ, List.set_cons_zero, List.set_cons_succ, br_t, br_f, wipeE, ↓reduceIte]
  refine ⟨1, hD, rfl, _, rfl, ok_int 6 1, ?_⟩
  simp (config := { maxSteps := 4000000 }) only [dRaise1, dXCall, dXApp, dCaught, dIsE, dXat, dNonE, dRev, dParV, dCallV, dStInt, dStTurn, dStNext, dMixed, dWhileS, dForS, dLcS, dStCells, dStPut, dAppPop, dBegun, dSeq, dCut, dNext, dFrzS, dSet, dSetN, dPar, dParN, dParM, dParNN, dDrop, dRet, dRetN, dIfS, dNever, dBreak, dCont, dAug, dApp, dPutL, dAugL, dIxO, dCBO, dOpO, dOpO2, dTupO, dWhile, dgName, dgNil, dgCons, dgTup, dAsg, dSeqI, dScrI, dRng1, dRng2, dRngN, dZip, dEnum, dFor, dLc, dLc2, dYes, dFrz, dVar, dC, dOp, dOpN, dUn, dChain, dNil, dCons, dTup, dCB, dCBN, dCall, dB, dAnd, dOr, dNot, dAndV, dOrV, dNotV, dIf, dNone, dSome, dSl, dIsi, dIsi2, dListR1, dListR2, dLenScr, dCallS, fLt, fLe, fGt, fGe, fSub, fFdiv, fMod, fPow, fIMul, fInt, fInt0, fCmp, fEq, fAdd, fMul, fRepN, fCatN, fNeg, fIs, fIn, flatD, fIx, fSl, fLen, fAbs, fIntOf, fTwo, fTupOf, fListOf, fIpAdd, DL.seen, ty_int_non, ty_int_bool, ty_int_int, ty_int_str, ty_int_list, ty_int_tuple, ty_bool_non, ty_bool_bool, ty_bool_int, ty_bool_str, ty_bool_list, ty_bool_tuple, ty_str_non, ty_str_bool, ty_str_int, ty_str_str, ty_str_list, ty_str_tuple, ty_list_non, ty_list_bool, ty_list_int, ty_list_str, ty_list_list, ty_list_tuple, ty_tuple_non, ty_tuple_bool, ty_tuple_int, ty_tuple_str, ty_tuple_list, ty_tuple_tuple, ty_dict_non, ty_dict_bool, ty_dict_int, ty_dict_str, ty_dict_list, ty_dict_tuple, Bool.not_false, Bool.not_true, List.getElem?_cons_zero, List.getElem?_cons_succ, List.set_cons_zero, List.set_cons_succ, br_t, br_f, wipeE, ↓reduceIte]
  exact h
theorem rd_q6 {mg : Str → Option Value} {T D : Addr} (hD : mg "BadTurning" = some (.ref D)) {DD : DEnds} {ns : List Int} {c1 c2 c4 c6 c7 c8 c11 c12 c13 c14 c15 c16 : C} {n m : Int} {os us : List Int} {st sv : Int} (ok : OkT n os st) (ok2 : OkT m us sv) (n2 : 2 ≤ n)
    (h : ∀ c12, DD.nx [.w ns T lamq, c1, c2, .d (.int n), c4, .d (tT n os st), c6, c7, c8, .d (.int m), .d (tT m us sv), c11, c12, c13, c14, c15, c16]) :
    d_law_q6 mg T DD [.w ns T lamq, c1, c2, .d (.int n), c4, .d (tT n os st), c6, c7, c8, .d (.int m), .d (tT m us sv), c11, c12, c13, c14, c15, c16] := by
  simp (config := { maxSteps := 4000000 }) only [d_law_q6, dRaise1, dXCall, dXApp, dCaught, dIsE, dXat, dNonE, dRev, dParV, dCallV, dStInt, dStTurn, dStNext, dMixed, dWhileS, dForS, dLcS, dStCells, dStPut, dAppPop, dBegun, dSeq, dCut, dNext, dFrzS, dSet, dSetN, dPar, dParN, dParM, dParNN, dDrop, dRet, dRetN, dIfS, dNever, dBreak, dCont, dAug, dApp, dPutL, dAugL, dIxO, dCBO, dOpO, dOpO2, dTupO, dWhile, dgName, dgNil, dgCons, dgTup, dAsg, dSeqI, dScrI, dRng1, dRng2, dRngN, dZip, dEnum, dFor, dLc, dLc2, dYes, dFrz, dVar, dC, dOp, dOpN, dUn, dChain, dNil, dCons, dTup, dCB, dCBN, dCall, dB, dAnd, dOr, dNot, dAndV, dOrV, dNotV, dIf, dNone, dSome, dSl, dIsi, dIsi2, dListR1, dListR2, dLenScr, dCallS, fLt, fLe, fGt, fGe, fSub, fFdiv, fMod, fPow, fIMul, fInt, fInt0, fCmp, fEq, fAdd, fMul, fRepN, fCatN, fNeg, fIs, fIn, flatD, fIx, fSl, fLen, fAbs, fIntOf, fTwo, fTupOf, fListOf, fIpAdd, DL.seen, ty_int_non, ty_int_bool, ty_int_int, ty_int_str, ty_int_list, ty_int_tuple, ty_bool_non, ty_bool_bool, ty_bool_int, ty_bool_str, ty_bool_list, ty_bool_tuple, ty_str_non, ty_str_bool, ty_str_int, ty_str_str, ty_str_list, ty_str_tuple, ty_list_non, ty_list_bool, ty_list_int, ty_list_str, ty_list_list, ty_list_tuple, ty_tuple_non, ty_tuple_bool, ty_tuple_int, ty_tuple_str, ty_tuple_list, ty_tuple_tuple, ty_dict_non, ty_dict_bool, ty_dict_int, ty_dict_str, ty_dict_list, ty_dict_tuple, Bool.not_false, Bool.not_true, List.getElem?_cons_zero, List.getElem?_cons_succ, List.set_cons_zero, List.set_cons_succ, br_t, br_f, wipeE, ↓reduceIte]
  refine ⟨trivial, trivial, n, os, st, m, us, sv, rfl, ok, ok2, n2, fun e _ => ?_, fun e D' hD' => ?_⟩
  · exact rd_q5 hD (.inl e.symm) (h _)
  · exact ⟨hD', rd_q5 hD' (.inr rfl) (h _)⟩
theorem rd_q10 {mg : Str → Option Value} {T D : Addr} (hD : mg "BadTurning" = some (.ref D)) {DD : DEnds} {ns : List Int} {a : Addr} {c2 c4 c6 c7 c8 c9 c10 c11 c12 c13 c14 c15 c16 : C} {n : Int} {os : List Int} {st : Int} (ok : OkT n os st) (n2 : 2 ≤ n)
    (h : ∀ c9 c10 c11 c12, DD.nx [.w ns T lamq, .s a, c2, .d (.int n), c4, .d (tT n os st), c6, c7, c8, c9, c10, c11, c12, c13, c14, c15, c16]) :
    d_law_q10 mg T DD [.w ns T lamq, .s a, c2, .d (.int n), c4, .d (tT n os st), c6, c7, c8, c9, c10, c11, c12, c13, c14, c15, c16] := by
  simp (config := { maxSteps := 4000000 }) only [d_law_q10, dRaise1, dXCall, dXApp, dCaught, dIsE, dXat, dNonE, dRev, dParV, dCallV, dStInt, dStTurn, dStNext, dMixed, dWhileS, dForS, dLcS, dStCells, dStPut, dAppPop, dBegun, dSeq, dCut, dNext, dFrzS, dSet, dSetN, dPar, dParN, dParM, dParNN, dDrop, dRet, dRetN, dIfS, dNever, dBreak, dCont, dAug, dApp, dPutL, dAugL, dIxO, dCBO, dOpO, dOpO2, dTupO, dWhile, dgName, dgNil, dgCons, dgTup, dAsg, dSeqI, dScrI, dRng1, dRng2, dRngN, dZip, dEnum, dFor, dLc, dLc2, dYes, dFrz, dVar, dC, dOp, dOpN, dUn, dChain, dNil, dCons, dTup, dCB, dCBN, dCall, dB, dAnd, dOr, dNot, dAndV, dOrV, dNotV, dIf, dNone, dSome, dSl, dIsi, dIsi2, dListR1, dListR2, dLenScr, dCallS, fLt, fLe, fGt, fGe, fSub, fFdiv, fMod, fPow, fIMul, fInt, fInt0, fCmp, fEq, fAdd, fMul, fRepN, fCatN, fNeg, fIs, fIn, flatD, fIx, fSl, fLen, fAbs, fIntOf, fTwo, fTupOf, fListOf, fIpAdd, DL.seen, ty_int_non, ty_int_bool, ty_int_int, ty_int_str, ty_int_list, ty_int_tuple, ty_bool_non, ty_bool_bool, ty_bool_int, ty_bool_str, ty_bool_list, ty_bool_tuple, ty_str_non, ty_str_bool, ty_str_int, ty_str_str, ty_str_list, ty_str_tuple, ty_list_non, ty_list_bool, ty_list_int, ty_list_str, ty_list_list, ty_list_tuple, ty_tuple_non, ty_tuple_bool, ty_tuple_int, ty_tuple_str, ty_tuple_list, ty_tuple_tuple, ty_dict_non, ty_dict_bool, ty_dict_int, ty_dict_str, ty_dict_list, ty_dict_tuple, Bool.not_false, Bool.not_true, List.getElem?_cons_zero, List.getElem?_cons_succ, List.set_cons_zero, List.set_cons_succ, br_t, br_f, wipeE, ↓reduceIte]
  refine ⟨239, rfl, by decide, by decide, fun r r0 r1 => ?_⟩
  obtain ⟨m, hm⟩ : ∃ m : Int, m = 2 + r := ⟨_, rfl⟩
  simp (config := { maxSteps := 4000000 }) only [d_law_q9, ten9, dRaise1, dXCall, dXApp, dCaught, dIsE, dXat, dNonE, dRev, dParV, dCallV, dStInt, dStTurn, dStNext, dMixed, dWhileS, dForS, dLcS, dStCells, dStPut, dAppPop, dBegun, dSeq, dCut, dNext, dFrzS, dSet, dSetN, dPar, dParN, dParM, dParNN, dDrop, dRet, dRetN, dIfS, dNever, dBreak, dCont, dAug, dApp, dPutL, dAugL, dIxO, dCBO, dOpO, dOpO2, dTupO, dWhile, dgName, dgNil, dgCons, dgTup, dAsg, dSeqI, dScrI, dRng1, dRng2, dRngN, dZip, dEnum, dFor, dLc, dLc2, dYes, dFrz, dVar, dC, dOp, dOpN, dUn, dChain, dNil, dCons, dTup, dCB, dCBN, dCall, dB, dAnd, dOr, dNot, dAndV, dOrV, dNotV, dIf, dNone, dSome, dSl, dIsi, dIsi2, dListR1, dListR2, dLenScr, dCallS, fLt, fLe, fGt, fGe, fSub, fFdiv, fMod, fPow, fIMul, fInt, fInt0, fCmp, fEq, fAdd, fMul, fRepN, fCatN, fNeg, fIs, fIn, flatD, fIx, fSl, fLen, fAbs, fIntOf, fTwo, fTupOf, fListOf, fIpAdd, DL.seen, ty_int_non, ty_int_bool, ty_int_int, ty_int_str, ty_int_list, ty_int_tuple, ty_bool_non, ty_bool_bool, ty_bool_int, ty_bool_str, ty_bool_list, ty_bool_tuple, ty_str_non, ty_str_bool, ty_str_int, ty_str_str, ty_str_list, ty_str_tuple, ty_list_non, ty_list_bool, ty_list_int, ty_list_str, ty_list_list, ty_list_tuple, ty_tuple_non, ty_tuple_bool, ty_tuple_int, ty_tuple_str, ty_tuple_list, ty_tuple_tuple, ty_dict_non, ty_dict_bool, ty_dict_int, ty_dict_str, ty_dict_list, ty_dict_tuple, Bool.not_false, Bool.not_true, List.getElem?_cons_zero, List.getElem?_cons_succ, List.set_cons_zero, List.set_cons_succ, br_t, br_f, wipeE, ↓reduceIte]
  rw [← hm]
  refine ⟨[m, 9], rfl, by simp, fun k hk hk2 => ⟨m, 1, k, rfl, by omega, by omega, by decide, ?_, ?_, fun us ring hl => ?_⟩⟩
  · simp only [List.mem_cons, List.not_mem_nil, or_false] at hk
    omega
  · have := hk2 9 (by simp)
    omega
  have k2 : k ≤ 9 := hk2 9 (by simp)
  have k1 : 1 ≤ k := by
    simp only [List.mem_cons, List.not_mem_nil, or_false] at hk
    omega
  obtain ⟨j, j1, j2, jl⟩ := hl
  refine ⟨_, atI1, pow9, _, rfl, by decide, by decide, fun q q0 q1 => ?_⟩
  have ok2 : OkT m us q := ok_of_ring (by omega) (by omega) (Int.le_refl m) ring (fun z => by rw [z] at jl; simp at jl; omega) (by omega) q0 q1
  simp (config := { maxSteps := 4000000 }) only [d_law_q8, dRaise1, dXCall, dXApp, dCaught, dIsE, dXat, dNonE, dRev, dParV, dCallV, dStInt, dStTurn, dStNext, dMixed, dWhileS, dForS, dLcS, dStCells, dStPut, dAppPop, dBegun, dSeq, dCut, dNext, dFrzS, dSet, dSetN, dPar, dParN, dParM, dParNN, dDrop, dRet, dRetN, dIfS, dNever, dBreak, dCont, dAug, dApp, dPutL, dAugL, dIxO, dCBO, dOpO, dOpO2, dTupO, dWhile, dgName, dgNil, dgCons, dgTup, dAsg, dSeqI, dScrI, dRng1, dRng2, dRngN, dZip, dEnum, dFor, dLc, dLc2, dYes, dFrz, dVar, dC, dOp, dOpN, dUn, dChain, dNil, dCons, dTup, dCB, dCBN, dCall, dB, dAnd, dOr, dNot, dAndV, dOrV, dNotV, dIf, dNone, dSome, dSl, dIsi, dIsi2, dListR1, dListR2, dLenScr, dCallS, fLt, fLe, fGt, fGe, fSub, fFdiv, fMod, fPow, fIMul, fInt, fInt0, fCmp, fEq, fAdd, fMul, fRepN, fCatN, fNeg, fIs, fIn, flatD, fIx, fSl, fLen, fAbs, fIntOf, fTwo, fTupOf, fListOf, fIpAdd, DL.seen, ty_int_non, ty_int_bool, ty_int_int, ty_int_str, ty_int_list, ty_int_tuple, ty_bool_non, ty_bool_bool, ty_bool_int, ty_bool_str, ty_bool_list, ty_bool_tuple, ty_str_non, ty_str_bool, ty_str_int, ty_str_str, ty_str_list, ty_str_tuple, ty_list_non, ty_list_bool, ty_list_int, ty_list_str, ty_list_list, ty_list_tuple, ty_tuple_non, ty_tuple_bool, ty_tuple_int, ty_tuple_str, ty_tuple_list, ty_tuple_tuple, ty_dict_non, ty_dict_bool, ty_dict_int, ty_dict_str, ty_dict_list, ty_dict_tuple, Bool.not_false, Bool.not_true, List.getElem?_cons_zero, List.getElem?_cons_succ, List.set_cons_zero, List.set_cons_succ, br_t, br_f, wipeE, ↓reduceIte]
  refine ⟨n, m, rfl, by omega, by omega, ?_⟩
  simp (config := { maxSteps := 4000000 }) only [d_law_q7, dRaise1, dXCall, dXApp, dCaught, dIsE, dXat, dNonE, dRev, dParV, dCallV, dStInt, dStTurn, dStNext, dMixed, dWhileS, dForS, dLcS, dStCells, dStPut, dAppPop, dBegun, dSeq, dCut, dNext, dFrzS, dSet, dSetN, dPar, dParN, dParM, dParNN, dDrop, dRet, dRetN, dIfS, dNever, dBreak, dCont, dAug, dApp, dPutL, dAugL, dIxO, dCBO, dOpO, dOpO2, dTupO, dWhile, dgName, dgNil, dgCons, dgTup, dAsg, dSeqI, dScrI, dRng1, dRng2, dRngN, dZip, dEnum, dFor, dLc, dLc2, dYes, dFrz, dVar, dC, dOp, dOpN, dUn, dChain, dNil, dCons, dTup, dCB, dCBN, dCall, dB, dAnd, dOr, dNot, dAndV, dOrV, dNotV, dIf, dNone, dSome, dSl, dIsi, dIsi2, dListR1, dListR2, dLenScr, dCallS, fLt, fLe, fGt, fGe, fSub, fFdiv, fMod, fPow, fIMul, fInt, fInt0, fCmp, fEq, fAdd, fMul, fRepN, fCatN, fNeg, fIs, fIn, flatD, fIx, fSl, fLen, fAbs, fIntOf, fTwo, fTupOf, fListOf, fIpAdd, DL.seen, ty_int_non, ty_int_bool, ty_int_int, ty_int_str, ty_int_list, ty_int_tuple, ty_bool_non, ty_bool_bool, ty_bool_int, ty_bool_str, ty_bool_list, ty_bool_tuple, ty_str_non, ty_str_bool, ty_str_int, ty_str_str, ty_str_list, ty_str_tuple, ty_list_non, ty_list_bool, ty_list_int, ty_list_str, ty_list_list, ty_list_tuple, ty_tuple_non, ty_tuple_bool, ty_tuple_int, ty_tuple_str, ty_tuple_list, ty_tuple_tuple, ty_dict_non, ty_dict_bool, ty_dict_int, ty_dict_str, ty_dict_list, ty_dict_tuple, Bool.not_false, Bool.not_true, List.getElem?_cons_zero, List.getElem?_cons_succ, List.set_cons_zero, List.set_cons_succ, br_t, br_f, wipeE, ↓reduceIte]
  refine ⟨n, os, st, m, us, q, rfl, ok, ok2, ?_⟩
  simp (config := { maxSteps := 4000000 }) only [dRaise1, dXCall, dXApp, dCaught, dIsE, dXat, dNonE, dRev, dParV, dCallV, dStInt, dStTurn, dStNext, dMixed, dWhileS, dForS, dLcS, dStCells, dStPut, dAppPop, dBegun, dSeq, dCut, dNext, dFrzS, dSet, dSetN, dPar, dParN, dParM, dParNN, dDrop, dRet, dRetN, dIfS, dNever, dBreak, dCont, dAug, dApp, dPutL, dAugL, dIxO, dCBO, dOpO, dOpO2, dTupO, dWhile, dgName, dgNil, dgCons, dgTup, dAsg, dSeqI, dScrI, dRng1, dRng2, dRngN, dZip, dEnum, dFor, dLc, dLc2, dYes, dFrz, dVar, dC, dOp, dOpN, dUn, dChain, dNil, dCons, dTup, dCB, dCBN, dCall, dB, dAnd, dOr, dNot, dAndV, dOrV, dNotV, dIf, dNone, dSome, dSl, dIsi, dIsi2, dListR1, dListR2, dLenScr, dCallS, fLt, fLe, fGt, fGe, fSub, fFdiv, fMod, fPow, fIMul, fInt, fInt0, fCmp, fEq, fAdd, fMul, fRepN, fCatN, fNeg, fIs, fIn, flatD, fIx, fSl, fLen, fAbs, fIntOf, fTwo, fTupOf, fListOf, fIpAdd, DL.seen, ty_int_non, ty_int_bool, ty_int_int, ty_int_str, ty_int_list, ty_int_tuple, ty_bool_non, ty_bool_bool, ty_bool_int, ty_bool_str, ty_bool_list, ty_bool_tuple, ty_str_non, ty_str_bool, ty_str_int, ty_str_str, ty_str_list, ty_str_tuple, ty_list_non, ty_list_bool, ty_list_int, ty_list_str, ty_list_list, ty_list_tuple, ty_tuple_non, ty_tuple_bool, ty_tuple_int, ty_tuple_str, ty_tuple_list, ty_tuple_tuple, ty_dict_non, ty_dict_bool, ty_dict_int, ty_dict_str, ty_dict_list, ty_dict_tuple, Bool.not_false, Bool.not_true, List.getElem?_cons_zero, List.getElem?_cons_succ, List.set_cons_zero, List.set_cons_succ, br_t, br_f, wipeE, ↓reduceIte]
  have n3 := ok.n2
  have g0 : 0 < Int.gcd n m := Int.gcd_pos_of_ne_zero_left _ (by omega)
  have g1 : (Int.gcd n m : Int) ≤ n := Int.gcd_le_left _ (by omega)
  refine ⟨n, os, st, m, us, q, _, rfl, by omega, by omega, ?_⟩
  rw [meet_eq, Int.toNat_natCast]
  refine ⟨_, rfl, ok_ints 5 (by rw [hist_len]; omega), ?_⟩
  simp (config := { maxSteps := 4000000 }) only [dRaise1, dXCall, dXApp, dCaught, dIsE, dXat, dNonE, dRev, dParV, dCallV, dStInt, dStTurn, dStNext, dMixed, dWhileS, dForS, dLcS, dStCells, dStPut, dAppPop, dBegun, dSeq, dCut, dNext, dFrzS, dSet, dSetN, dPar, dParN, dParM, dParNN, dDrop, dRet, dRetN, dIfS, dNever, dBreak, dCont, dAug, dApp, dPutL, dAugL, dIxO, dCBO, dOpO, dOpO2, dTupO, dWhile, dgName, dgNil, dgCons, dgTup, dAsg, dSeqI, dScrI, dRng1, dRng2, dRngN, dZip, dEnum, dFor, dLc, dLc2, dYes, dFrz, dVar, dC, dOp, dOpN, dUn, dChain, dNil, dCons, dTup, dCB, dCBN, dCall, dB, dAnd, dOr, dNot, dAndV, dOrV, dNotV, dIf, dNone, dSome, dSl, dIsi, dIsi2, dListR1, dListR2, dLenScr, dCallS, fLt, fLe, fGt, fGe, fSub, fFdiv, fMod, fPow, fIMul, fInt, fInt0, fCmp, fEq, fAdd, fMul, fRepN, fCatN, fNeg, fIs, fIn, flatD, fIx, fSl, fLen, fAbs, fIntOf, fTwo, fTupOf, fListOf, fIpAdd, DL.seen, ty_int_non, ty_int_bool, ty_int_int, ty_int_str, ty_int_list, ty_int_tuple, ty_bool_non, ty_bool_bool, ty_bool_int, ty_bool_str, ty_bool_list, ty_bool_tuple, ty_str_non, ty_str_bool, ty_str_int, ty_str_str, ty_str_list, ty_str_tuple, ty_list_non, ty_list_bool, ty_list_int, ty_list_str, ty_list_list, ty_list_tuple, ty_tuple_non, ty_tuple_bool, ty_tuple_int, ty_tuple_str, ty_tuple_list, ty_tuple_tuple, ty_dict_non, ty_dict_bool, ty_dict_int, ty_dict_str, ty_dict_list, ty_dict_tuple, Bool.not_false, Bool.not_true, List.getElem?_cons_zero, List.getElem?_cons_succ, List.set_cons_zero, List.set_cons_succ, br_t, br_f, wipeE, ↓reduceIte]
  exact rd_q6 hD ok ok2 n2 fun _ => h _ _ _ _
theorem rd_q11 {mg : Str → Option Value} {T D : Addr} (hD : mg "BadTurning" = some (.ref D)) {DD : DEnds} {ns : List Int} {a : Addr} {c2 c4 c8 c9 c10 c11 c12 c13 c14 c15 : C} {n : Int} {os us : List Int} {st sv : Int} (ok : OkT n os st) (ok2 : OkT n us sv) (n2 : 2 ≤ n)
    (h : ∀ c5 c6 c7 c8 c9 c10 c11 c12 c13 c14 c15, DD.nx [.w ns T lamq, .s a, c2, .d (.int n), c4, c5, c6, c7, c8, c9, c10, c11, c12, c13, c14, c15, .no]) :
    d_law_q11 mg T DD [.w ns T lamq, .s a, c2, .d (.int n), c4, .d (tT n os st), .d (tT n us sv), .d (.list (iL (hist n.toNat (agreeP n os st us sv)))), c8, c9, c10, c11, c12, c13, c14, c15, .no] := by
  have n3 := ok.n2
  simp (config := { maxSteps := 4000000 }) only [d_law_q11, dRaise1, dXCall, dXApp, dCaught, dIsE, dXat, dNonE, dRev, dParV, dCallV, dStInt, dStTurn, dStNext, dMixed, dWhileS, dForS, dLcS, dStCells, dStPut, dAppPop, dBegun, dSeq, dCut, dNext, dFrzS, dSet, dSetN, dPar, dParN, dParM, dParNN, dDrop, dRet, dRetN, dIfS, dNever, dBreak, dCont, dAug, dApp, dPutL, dAugL, dIxO, dCBO, dOpO, dOpO2, dTupO, dWhile, dgName, dgNil, dgCons, dgTup, dAsg, dSeqI, dScrI, dRng1, dRng2, dRngN, dZip, dEnum, dFor, dLc, dLc2, dYes, dFrz, dVar, dC, dOp, dOpN, dUn, dChain, dNil, dCons, dTup, dCB, dCBN, dCall, dB, dAnd, dOr, dNot, dAndV, dOrV, dNotV, dIf, dNone, dSome, dSl, dIsi, dIsi2, dListR1, dListR2, dLenScr, dCallS, fLt, fLe, fGt, fGe, fSub, fFdiv, fMod, fPow, fIMul, fInt, fInt0, fCmp, fEq, fAdd, fMul, fRepN, fCatN, fNeg, fIs, fIn, flatD, fIx, fSl, fLen, fAbs, fIntOf, fTwo, fTupOf, fListOf, fIpAdd, DL.seen, ty_int_non, ty_int_bool, ty_int_int, ty_int_str, ty_int_list, ty_int_tuple, ty_bool_non, ty_bool_bool, ty_bool_int, ty_bool_str, ty_bool_list, ty_bool_tuple, ty_str_non, ty_str_bool, ty_str_int, ty_str_str, ty_str_list, ty_str_tuple, ty_list_non, ty_list_bool, ty_list_int, ty_list_str, ty_list_list, ty_list_tuple, ty_tuple_non, ty_tuple_bool, ty_tuple_int, ty_tuple_str, ty_tuple_list, ty_tuple_tuple, ty_dict_non, ty_dict_bool, ty_dict_int, ty_dict_str, ty_dict_list, ty_dict_tuple, Bool.not_false, Bool.not_true, List.getElem?_cons_zero, List.getElem?_cons_succ, List.set_cons_zero, List.set_cons_succ, br_t, br_f, wipeE, ↓reduceIte]
  refine ⟨n, rfl, by omega, by omega, fun r r0 r1 => ⟨n, rfl, by omega, by omega, fun q q0 q1 => ?_⟩⟩
  refine ⟨by simp, fun _ E => ∃ c8 c13 c14 c15, E = [C.w ns T lamq, .s a, c2, .d (.int n), c4, .d (tT n os st), .d (tT n us sv), .d (.list (iL (hist n.toNat (agreeP n os st us sv)))), c8, c9, c10, c11, c12, c13, c14, c15, .no], ⟨_, _, _, _, rfl⟩, ?_, ?_⟩
  · rintro i x E hx ⟨c8, c13, c14, c15, rfl⟩
    have hm := List.mem_of_getElem? hx
    have fin : ∀ S : Int, 0 ≤ S ∧ S ≤ n - 1 → d_law_q4 { nx := fun E => ∃ c8 c13 c14 c15, E = [C.w ns T lamq, .s a, c2, .d (.int n), c4, .d (tT n os st), .d (tT n us sv), .d (.list (iL (hist n.toNat (agreeP n os st us sv)))), c8, c9, c10, c11, c12, c13, c14, c15, .no], ct := fun E => ∃ c8 c13 c14 c15, E = [C.w ns T lamq, .s a, c2, .d (.int n), c4, .d (tT n os st), .d (tT n us sv), .d (.list (iL (hist n.toNat (agreeP n os st us sv)))), c8, c9, c10, c11, c12, c13, c14, c15, .no], bk := fun E => d_law_q10 mg T DD E, rt := DD.rt, wx := DD.wx, rx := DD.rx } [C.w ns T lamq, .s a, c2, .d (.int n), c4, .d (tT n os st), .d (tT n us sv), .d (.list (iL (hist n.toNat (agreeP n os st us sv)))), .d (.int S), c9, c10, c11, c12, c13, c14, c15, .no] :=
      fun S hS => rd_q4 ok ok2 n2 hS fun c13 c14 c15 => ⟨_, _, _, _, rfl⟩
    simp only [List.mem_cons, List.not_mem_nil, or_false] at hm
    rcases hm with rfl | rfl | rfl | rfl | rfl
    · exact fin 0 (by omega)
    · exact fin 1 (by omega)
    · exact fin (n - 1) (by omega)
    · exact fin r (by omega)
    · exact fin q (by omega)
  · rintro E ⟨c8, c13, c14, c15, rfl⟩
    exact rd_q10 hD ok n2 fun c9 c10 c11 c12 => h _ _ _ _ _ _ _ _ _ _ _
theorem rd_q13 {mg : Str → Option Value} {T D : Addr} (hD : mg "BadTurning" = some (.ref D)) {DD : DEnds} {ns : List Int} {a : Addr} {c2 c4 c7 c8 c9 c10 c11 c12 c13 c14 c15 : C} {n : Int} {os us : List Int} {st sv : Int} (ok : OkT n os st) (ok2 : OkT n us sv) (n2 : 2 ≤ n)
    (h : ∀ c5 c6 c7 c8 c9 c10 c11 c12 c13 c14 c15, DD.nx [.w ns T lamq, .s a, c2, .d (.int n), c4, c5, c6, c7, c8, c9, c10, c11, c12, c13, c14, c15, .no]) :
    d_law_q13 mg T DD [.w ns T lamq, .s a, c2, .d (.int n), c4, .d (tT n os st), .d (tT n us sv), c7, c8, c9, c10, c11, c12, c13, c14, c15, .no] := by
  have n3 := ok.n2
  have em : meetL n os st n us sv = hist n.toNat (agreeP n os st us sv) := by rw [meet_eq, (self_gcd ok.n1).1, (self_gcd ok.n1).2]
  simp (config := { maxSteps := 4000000 }) only [d_law_q13, dRaise1, dXCall, dXApp, dCaught, dIsE, dXat, dNonE, dRev, dParV, dCallV, dStInt, dStTurn, dStNext, dMixed, dWhileS, dForS, dLcS, dStCells, dStPut, dAppPop, dBegun, dSeq, dCut, dNext, dFrzS, dSet, dSetN, dPar, dParN, dParM, dParNN, dDrop, dRet, dRetN, dIfS, dNever, dBreak, dCont, dAug, dApp, dPutL, dAugL, dIxO, dCBO, dOpO, dOpO2, dTupO, dWhile, dgName, dgNil, dgCons, dgTup, dAsg, dSeqI, dScrI, dRng1, dRng2, dRngN, dZip, dEnum, dFor, dLc, dLc2, dYes, dFrz, dVar, dC, dOp, dOpN, dUn, dChain, dNil, dCons, dTup, dCB, dCBN, dCall, dB, dAnd, dOr, dNot, dAndV, dOrV, dNotV, dIf, dNone, dSome, dSl, dIsi, dIsi2, dListR1, dListR2, dLenScr, dCallS, fLt, fLe, fGt, fGe, fSub, fFdiv, fMod, fPow, fIMul, fInt, fInt0, fCmp, fEq, fAdd, fMul, fRepN, fCatN, fNeg, fIs, fIn, flatD, fIx, fSl, fLen, fAbs, fIntOf, fTwo, fTupOf, fListOf, fIpAdd, DL.seen, ty_int_non, ty_int_bool, ty_int_int, ty_int_str, ty_int_list, ty_int_tuple, ty_bool_non, ty_bool_bool, ty_bool_int, ty_bool_str, ty_bool_list, ty_bool_tuple, ty_str_non, ty_str_bool, ty_str_int, ty_str_str, ty_str_list, ty_str_tuple, ty_list_non, ty_list_bool, ty_list_int, ty_list_str, ty_list_list, ty_list_tuple, ty_tuple_non, ty_tuple_bool, ty_tuple_int, ty_tuple_str, ty_tuple_list, ty_tuple_tuple, ty_dict_non, ty_dict_bool, ty_dict_int, ty_dict_str, ty_dict_list, ty_dict_tuple, Bool.not_false, Bool.not_true, List.getElem?_cons_zero, List.getElem?_cons_succ, List.set_cons_zero, List.set_cons_succ, br_t, br_f, wipeE, ↓reduceIte]
  refine ⟨n, os, st, n, us, sv, n, rfl, by omega, by omega, ?_⟩
  simp (config := { maxSteps := 4000000 }) only [d_law_q12, dRaise1, dXCall, dXApp, dCaught, dIsE, dXat, dNonE, dRev, dParV, dCallV, dStInt, dStTurn, dStNext, dMixed, dWhileS, dForS, dLcS, dStCells, dStPut, dAppPop, dBegun, dSeq, dCut, dNext, dFrzS, dSet, dSetN, dPar, dParN, dParM, dParNN, dDrop, dRet, dRetN, dIfS, dNever, dBreak, dCont, dAug, dApp, dPutL, dAugL, dIxO, dCBO, dOpO, dOpO2, dTupO, dWhile, dgName, dgNil, dgCons, dgTup, dAsg, dSeqI, dScrI, dRng1, dRng2, dRngN, dZip, dEnum, dFor, dLc, dLc2, dYes, dFrz, dVar, dC, dOp, dOpN, dUn, dChain, dNil, dCons, dTup, dCB, dCBN, dCall, dB, dAnd, dOr, dNot, dAndV, dOrV, dNotV, dIf, dNone, dSome, dSl, dIsi, dIsi2, dListR1, dListR2, dLenScr, dCallS, fLt, fLe, fGt, fGe, fSub, fFdiv, fMod, fPow, fIMul, fInt, fInt0, fCmp, fEq, fAdd, fMul, fRepN, fCatN, fNeg, fIs, fIn, flatD, fIx, fSl, fLen, fAbs, fIntOf, fTwo, fTupOf, fListOf, fIpAdd, DL.seen, ty_int_non, ty_int_bool, ty_int_int, ty_int_str, ty_int_list, ty_int_tuple, ty_bool_non, ty_bool_bool, ty_bool_int, ty_bool_str, ty_bool_list, ty_bool_tuple, ty_str_non, ty_str_bool, ty_str_int, ty_str_str, ty_str_list, ty_str_tuple, ty_list_non, ty_list_bool, ty_list_int, ty_list_str, ty_list_list, ty_list_tuple, ty_tuple_non, ty_tuple_bool, ty_tuple_int, ty_tuple_str, ty_tuple_list, ty_tuple_tuple, ty_dict_non, ty_dict_bool, ty_dict_int, ty_dict_str, ty_dict_list, ty_dict_tuple, Bool.not_false, Bool.not_true, List.getElem?_cons_zero, List.getElem?_cons_succ, List.set_cons_zero, List.set_cons_succ, br_t, br_f, wipeE, ↓reduceIte]
  refine ⟨n, os, st, n, us, sv, rfl, ok, ok2, ?_⟩
  rw [em]
  simp (config := { maxSteps := 4000000 }) only [dRaise1, dXCall, dXApp, dCaught, dIsE, dXat, dNonE, dRev, dParV, dCallV, dStInt, dStTurn, dStNext, dMixed, dWhileS, dForS, dLcS, dStCells, dStPut, dAppPop, dBegun, dSeq, dCut, dNext, dFrzS, dSet, dSetN, dPar, dParN, dParM, dParNN, dDrop, dRet, dRetN, dIfS, dNever, dBreak, dCont, dAug, dApp, dPutL, dAugL, dIxO, dCBO, dOpO, dOpO2, dTupO, dWhile, dgName, dgNil, dgCons, dgTup, dAsg, dSeqI, dScrI, dRng1, dRng2, dRngN, dZip, dEnum, dFor, dLc, dLc2, dYes, dFrz, dVar, dC, dOp, dOpN, dUn, dChain, dNil, dCons, dTup, dCB, dCBN, dCall, dB, dAnd, dOr, dNot, dAndV, dOrV, dNotV, dIf, dNone, dSome, dSl, dIsi, dIsi2, dListR1, dListR2, dLenScr, dCallS, fLt, fLe, fGt, fGe, fSub, fFdiv, fMod, fPow, fIMul, fInt, fInt0, fCmp, fEq, fAdd, fMul, fRepN, fCatN, fNeg, fIs, fIn, flatD, fIx, fSl, fLen, fAbs, fIntOf, fTwo, fTupOf, fListOf, fIpAdd, DL.seen, ty_int_non, ty_int_bool, ty_int_int, ty_int_str, ty_int_list, ty_int_tuple, ty_bool_non, ty_bool_bool, ty_bool_int, ty_bool_str, ty_bool_list, ty_bool_tuple, ty_str_non, ty_str_bool, ty_str_int, ty_str_str, ty_str_list, ty_str_tuple, ty_list_non, ty_list_bool, ty_list_int, ty_list_str, ty_list_list, ty_list_tuple, ty_tuple_non, ty_tuple_bool, ty_tuple_int, ty_tuple_str, ty_tuple_list, ty_tuple_tuple, ty_dict_non, ty_dict_bool, ty_dict_int, ty_dict_str, ty_dict_list, ty_dict_tuple, Bool.not_false, Bool.not_true, List.getElem?_cons_zero, List.getElem?_cons_succ, List.set_cons_zero, List.set_cons_succ, br_t, br_f, wipeE, ↓reduceIte]
  refine ⟨_, rfl, ok_ints 5 (by rw [hist_len]; omega), ?_⟩
  simp (config := { maxSteps := 4000000 }) only [dRaise1, dXCall, dXApp, dCaught, dIsE, dXat, dNonE, dRev, dParV, dCallV, dStInt, dStTurn, dStNext, dMixed, dWhileS, dForS, dLcS, dStCells, dStPut, dAppPop, dBegun, dSeq, dCut, dNext, dFrzS, dSet, dSetN, dPar, dParN, dParM, dParNN, dDrop, dRet, dRetN, dIfS, dNever, dBreak, dCont, dAug, dApp, dPutL, dAugL, dIxO, dCBO, dOpO, dOpO2, dTupO, dWhile, dgName, dgNil, dgCons, dgTup, dAsg, dSeqI, dScrI, dRng1, dRng2, dRngN, dZip, dEnum, dFor, dLc, dLc2, dYes, dFrz, dVar, dC, dOp, dOpN, dUn, dChain, dNil, dCons, dTup, dCB, dCBN, dCall, dB, dAnd, dOr, dNot, dAndV, dOrV, dNotV, dIf, dNone, dSome, dSl, dIsi, dIsi2, dListR1, dListR2, dLenScr, dCallS, fLt, fLe, fGt, fGe, fSub, fFdiv, fMod, fPow, fIMul, fInt, fInt0, fCmp, fEq, fAdd, fMul, fRepN, fCatN, fNeg, fIs, fIn, flatD, fIx, fSl, fLen, fAbs, fIntOf, fTwo, fTupOf, fListOf, fIpAdd, DL.seen, ty_int_non, ty_int_bool, ty_int_int, ty_int_str, ty_int_list, ty_int_tuple, ty_bool_non, ty_bool_bool, ty_bool_int, ty_bool_str, ty_bool_list, ty_bool_tuple, ty_str_non, ty_str_bool, ty_str_int, ty_str_str, ty_str_list, ty_str_tuple, ty_list_non, ty_list_bool, ty_list_int, ty_list_str, ty_list_list, ty_list_tuple, ty_tuple_non, ty_tuple_bool, ty_tuple_int, ty_tuple_str, ty_tuple_list, ty_tuple_tuple, ty_dict_non, ty_dict_bool, ty_dict_int, ty_dict_str, ty_dict_list, ty_dict_tuple, Bool.not_false, Bool.not_true, List.getElem?_cons_zero, List.getElem?_cons_succ, List.set_cons_zero, List.set_cons_succ, br_t, br_f, wipeE, ↓reduceIte]
  refine ⟨n, os, st, us, sv, rfl, ok, ok2, fun k0 k1 => ⟨_, atI2, ?_⟩⟩
  refine ⟨_, atI_int (Int.le_refl 0) (hist_get (D := n.toNat) (k := 0) (by omega)), ?_⟩
  rw [prod_zero (by omega)]
  refine ⟨_, rfl, ok_int 6 _, ?_⟩
  simp (config := { maxSteps := 4000000 }) only [dRaise1, dXCall, dXApp, dCaught, dIsE, dXat, dNonE, dRev, dParV, dCallV, dStInt, dStTurn, dStNext, dMixed, dWhileS, dForS, dLcS, dStCells, dStPut, dAppPop, dBegun, dSeq, dCut, dNext, dFrzS, dSet, dSetN, dPar, dParN, dParM, dParNN, dDrop, dRet, dRetN, dIfS, dNever, dBreak, dCont, dAug, dApp, dPutL, dAugL, dIxO, dCBO, dOpO, dOpO2, dTupO, dWhile, dgName, dgNil, dgCons, dgTup, dAsg, dSeqI, dScrI, dRng1, dRng2, dRngN, dZip, dEnum, dFor, dLc, dLc2, dYes, dFrz, dVar, dC, dOp, dOpN, dUn, dChain, dNil, dCons, dTup, dCB, dCBN, dCall, dB, dAnd, dOr, dNot, dAndV, dOrV, dNotV, dIf, dNone, dSome, dSl, dIsi, dIsi2, dListR1, dListR2, dLenScr, dCallS, fLt, fLe, fGt, fGe, fSub, fFdiv, fMod, fPow, fIMul, fInt, fInt0, fCmp, fEq, fAdd, fMul, fRepN, fCatN, fNeg, fIs, fIn, flatD, fIx, fSl, fLen, fAbs, fIntOf, fTwo, fTupOf, fListOf, fIpAdd, DL.seen, ty_int_non, ty_int_bool, ty_int_int, ty_int_str, ty_int_list, ty_int_tuple, ty_bool_non, ty_bool_bool, ty_bool_int, ty_bool_str, ty_bool_list, ty_bool_tuple, ty_str_non, ty_str_bool, ty_str_int, ty_str_str, ty_str_list, ty_str_tuple, ty_list_non, ty_list_bool, ty_list_int, ty_list_str, ty_list_list, ty_list_tuple, ty_tuple_non, ty_tuple_bool, ty_tuple_int, ty_tuple_str, ty_tuple_list, ty_tuple_tuple, ty_dict_non, ty_dict_bool, ty_dict_int, ty_dict_str, ty_dict_list, ty_dict_tuple, Bool.not_false, Bool.not_true, List.getElem?_cons_zero, List.getElem?_cons_succ, List.set_cons_zero, List.set_cons_succ, br_t, br_f, wipeE, ↓reduceIte]
  exact rd_q11 hD ok ok2 n2 h
theorem rd_q17 {mg : Str → Option Value} {T D : Addr} (hD : mg "BadTurning" = some (.ref D)) {DD : DEnds} {ns : List Int} {a : Addr} {c2 c3 c4 c5 c6 c7 c8 c9 c10 c11 c12 c13 c14 c15 : C}
    (h : ∀ c3 c4 c5 c6 c7 c8 c9 c10 c11 c12 c13 c14 c15, DD.nx [.w ns T lamq, .s a, c2, c3, c4, c5, c6, c7, c8, c9, c10, c11, c12, c13, c14, c15, .no]) :
    d_law_q17 mg T DD [.w ns T lamq, .s a, c2, c3, c4, c5, c6, c7, c8, c9, c10, c11, c12, c13, c14, c15, .no] := by
  simp (config := { maxSteps := 4000000 }) only [d_law_q17, dRaise1, dXCall, dXApp, dCaught, dIsE, dXat, dNonE, dRev, dParV, dCallV, dStInt, dStTurn, dStNext, dMixed, dWhileS, dForS, dLcS, dStCells, dStPut, dAppPop, dBegun, dSeq, dCut, dNext, dFrzS, dSet, dSetN, dPar, dParN, dParM, dParNN, dDrop, dRet, dRetN, dIfS, dNever, dBreak, dCont, dAug, dApp, dPutL, dAugL, dIxO, dCBO, dOpO, dOpO2, dTupO, dWhile, dgName, dgNil, dgCons, dgTup, dAsg, dSeqI, dScrI, dRng1, dRng2, dRngN, dZip, dEnum, dFor, dLc, dLc2, dYes, dFrz, dVar, dC, dOp, dOpN, dUn, dChain, dNil, dCons, dTup, dCB, dCBN, dCall, dB, dAnd, dOr, dNot, dAndV, dOrV, dNotV, dIf, dNone, dSome, dSl, dIsi, dIsi2, dListR1, dListR2, dLenScr, dCallS, fLt, fLe, fGt, fGe, fSub, fFdiv, fMod, fPow, fIMul, fInt, fInt0, fCmp, fEq, fAdd, fMul, fRepN, fCatN, fNeg, fIs, fIn, flatD, fIx, fSl, fLen, fAbs, fIntOf, fTwo, fTupOf, fListOf, fIpAdd, DL.seen, ty_int_non, ty_int_bool, ty_int_int, ty_int_str, ty_int_list, ty_int_tuple, ty_bool_non, ty_bool_bool, ty_bool_int, ty_bool_str, ty_bool_list, ty_bool_tuple, ty_str_non, ty_str_bool, ty_str_int, ty_str_str, ty_str_list, ty_str_tuple, ty_list_non, ty_list_bool, ty_list_int, ty_list_str, ty_list_list, ty_list_tuple, ty_tuple_non, ty_tuple_bool, ty_tuple_int, ty_tuple_str, ty_tuple_list, ty_tuple_tuple, ty_dict_non, ty_dict_bool, ty_dict_int, ty_dict_str, ty_dict_list, ty_dict_tuple, Bool.not_false, Bool.not_true, List.getElem?_cons_zero, List.getElem?_cons_succ, List.set_cons_zero, List.set_cons_succ, br_t, br_f, wipeE, ↓reduceIte]
  refine ⟨239, rfl, by decide, by decide, fun r r0 r1 => ?_⟩
  obtain ⟨n, hn⟩ : ∃ n : Int, n = 2 + r := ⟨_, rfl⟩
  simp (config := { maxSteps := 4000000 }) only [d_law_q16, dRaise1, dXCall, dXApp, dCaught, dIsE, dXat, dNonE, dRev, dParV, dCallV, dStInt, dStTurn, dStNext, dMixed, dWhileS, dForS, dLcS, dStCells, dStPut, dAppPop, dBegun, dSeq, dCut, dNext, dFrzS, dSet, dSetN, dPar, dParN, dParM, dParNN, dDrop, dRet, dRetN, dIfS, dNever, dBreak, dCont, dAug, dApp, dPutL, dAugL, dIxO, dCBO, dOpO, dOpO2, dTupO, dWhile, dgName, dgNil, dgCons, dgTup, dAsg, dSeqI, dScrI, dRng1, dRng2, dRngN, dZip, dEnum, dFor, dLc, dLc2, dYes, dFrz, dVar, dC, dOp, dOpN, dUn, dChain, dNil, dCons, dTup, dCB, dCBN, dCall, dB, dAnd, dOr, dNot, dAndV, dOrV, dNotV, dIf, dNone, dSome, dSl, dIsi, dIsi2, dListR1, dListR2, dLenScr, dCallS, fLt, fLe, fGt, fGe, fSub, fFdiv, fMod, fPow, fIMul, fInt, fInt0, fCmp, fEq, fAdd, fMul, fRepN, fCatN, fNeg, fIs, fIn, flatD, fIx, fSl, fLen, fAbs, fIntOf, fTwo, fTupOf, fListOf, fIpAdd, DL.seen, ty_int_non, ty_int_bool, ty_int_int, ty_int_str, ty_int_list, ty_int_tuple, ty_bool_non, ty_bool_bool, ty_bool_int, ty_bool_str, ty_bool_list, ty_bool_tuple, ty_str_non, ty_str_bool, ty_str_int, ty_str_str, ty_str_list, ty_str_tuple, ty_list_non, ty_list_bool, ty_list_int, ty_list_str, ty_list_list, ty_list_tuple, ty_tuple_non, ty_tuple_bool, ty_tuple_int, ty_tuple_str, ty_tuple_list, ty_tuple_tuple, ty_dict_non, ty_dict_bool, ty_dict_int, ty_dict_str, ty_dict_list, ty_dict_tuple, Bool.not_false, Bool.not_true, List.getElem?_cons_zero, List.getElem?_cons_succ, List.set_cons_zero, List.set_cons_succ, br_t, br_f, wipeE, ↓reduceIte]
  rw [← hn]
  refine ⟨log_small (by decide) (by decide), _, rfl, by omega, by omega, fun q q0 q1 => ?_⟩
  obtain ⟨c, hc⟩ : ∃ c : Int, c = 1 + q := ⟨_, rfl⟩
  simp (config := { maxSteps := 4000000 }) only [d_law_q15, ten9, dRaise1, dXCall, dXApp, dCaught, dIsE, dXat, dNonE, dRev, dParV, dCallV, dStInt, dStTurn, dStNext, dMixed, dWhileS, dForS, dLcS, dStCells, dStPut, dAppPop, dBegun, dSeq, dCut, dNext, dFrzS, dSet, dSetN, dPar, dParN, dParM, dParNN, dDrop, dRet, dRetN, dIfS, dNever, dBreak, dCont, dAug, dApp, dPutL, dAugL, dIxO, dCBO, dOpO, dOpO2, dTupO, dWhile, dgName, dgNil, dgCons, dgTup, dAsg, dSeqI, dScrI, dRng1, dRng2, dRngN, dZip, dEnum, dFor, dLc, dLc2, dYes, dFrz, dVar, dC, dOp, dOpN, dUn, dChain, dNil, dCons, dTup, dCB, dCBN, dCall, dB, dAnd, dOr, dNot, dAndV, dOrV, dNotV, dIf, dNone, dSome, dSl, dIsi, dIsi2, dListR1, dListR2, dLenScr, dCallS, fLt, fLe, fGt, fGe, fSub, fFdiv, fMod, fPow, fIMul, fInt, fInt0, fCmp, fEq, fAdd, fMul, fRepN, fCatN, fNeg, fIs, fIn, flatD, fIx, fSl, fLen, fAbs, fIntOf, fTwo, fTupOf, fListOf, fIpAdd, DL.seen, ty_int_non, ty_int_bool, ty_int_int, ty_int_str, ty_int_list, ty_int_tuple, ty_bool_non, ty_bool_bool, ty_bool_int, ty_bool_str, ty_bool_list, ty_bool_tuple, ty_str_non, ty_str_bool, ty_str_int, ty_str_str, ty_str_list, ty_str_tuple, ty_list_non, ty_list_bool, ty_list_int, ty_list_str, ty_list_list, ty_list_tuple, ty_tuple_non, ty_tuple_bool, ty_tuple_int, ty_tuple_str, ty_tuple_list, ty_tuple_tuple, ty_dict_non, ty_dict_bool, ty_dict_int, ty_dict_str, ty_dict_list, ty_dict_tuple, Bool.not_false, Bool.not_true, List.getElem?_cons_zero, List.getElem?_cons_succ, List.set_cons_zero, List.set_cons_succ, br_t, br_f, wipeE, ↓reduceIte]
  rw [← hc]
  refine ⟨⟨by omega, by omega, by omega, by omega, by omega⟩, _, rfl, by rw [rgD_len]; omega, cmp_rg _, fun ys hy => ?_⟩
  simp (config := { maxSteps := 4000000 }) only [dRaise1, dXCall, dXApp, dCaught, dIsE, dXat, dNonE, dRev, dParV, dCallV, dStInt, dStTurn, dStNext, dMixed, dWhileS, dForS, dLcS, dStCells, dStPut, dAppPop, dBegun, dSeq, dCut, dNext, dFrzS, dSet, dSetN, dPar, dParN, dParM, dParNN, dDrop, dRet, dRetN, dIfS, dNever, dBreak, dCont, dAug, dApp, dPutL, dAugL, dIxO, dCBO, dOpO, dOpO2, dTupO, dWhile, dgName, dgNil, dgCons, dgTup, dAsg, dSeqI, dScrI, dRng1, dRng2, dRngN, dZip, dEnum, dFor, dLc, dLc2, dYes, dFrz, dVar, dC, dOp, dOpN, dUn, dChain, dNil, dCons, dTup, dCB, dCBN, dCall, dB, dAnd, dOr, dNot, dAndV, dOrV, dNotV, dIf, dNone, dSome, dSl, dIsi, dIsi2, dListR1, dListR2, dLenScr, dCallS, fLt, fLe, fGt, fGe, fSub, fFdiv, fMod, fPow, fIMul, fInt, fInt0, fCmp, fEq, fAdd, fMul, fRepN, fCatN, fNeg, fIs, fIn, flatD, fIx, fSl, fLen, fAbs, fIntOf, fTwo, fTupOf, fListOf, fIpAdd, DL.seen, ty_int_non, ty_int_bool, ty_int_int, ty_int_str, ty_int_list, ty_int_tuple, ty_bool_non, ty_bool_bool, ty_bool_int, ty_bool_str, ty_bool_list, ty_bool_tuple, ty_str_non, ty_str_bool, ty_str_int, ty_str_str, ty_str_list, ty_str_tuple, ty_list_non, ty_list_bool, ty_list_int, ty_list_str, ty_list_list, ty_list_tuple, ty_tuple_non, ty_tuple_bool, ty_tuple_int, ty_tuple_str, ty_tuple_list, ty_tuple_tuple, ty_dict_non, ty_dict_bool, ty_dict_int, ty_dict_str, ty_dict_list, ty_dict_tuple, Bool.not_false, Bool.not_true, List.getElem?_cons_zero, List.getElem?_cons_succ, List.set_cons_zero, List.set_cons_succ, br_t, br_f, wipeE, ↓reduceIte]
  refine ⟨12, rfl, by decide, by decide, fun p p0 p1 => ?_⟩
  simp (config := { maxSteps := 4000000 }) only [dRaise1, dXCall, dXApp, dCaught, dIsE, dXat, dNonE, dRev, dParV, dCallV, dStInt, dStTurn, dStNext, dMixed, dWhileS, dForS, dLcS, dStCells, dStPut, dAppPop, dBegun, dSeq, dCut, dNext, dFrzS, dSet, dSetN, dPar, dParN, dParM, dParNN, dDrop, dRet, dRetN, dIfS, dNever, dBreak, dCont, dAug, dApp, dPutL, dAugL, dIxO, dCBO, dOpO, dOpO2, dTupO, dWhile, dgName, dgNil, dgCons, dgTup, dAsg, dSeqI, dScrI, dRng1, dRng2, dRngN, dZip, dEnum, dFor, dLc, dLc2, dYes, dFrz, dVar, dC, dOp, dOpN, dUn, dChain, dNil, dCons, dTup, dCB, dCBN, dCall, dB, dAnd, dOr, dNot, dAndV, dOrV, dNotV, dIf, dNone, dSome, dSl, dIsi, dIsi2, dListR1, dListR2, dLenScr, dCallS, fLt, fLe, fGt, fGe, fSub, fFdiv, fMod, fPow, fIMul, fInt, fInt0, fCmp, fEq, fAdd, fMul, fRepN, fCatN, fNeg, fIs, fIn, flatD, fIx, fSl, fLen, fAbs, fIntOf, fTwo, fTupOf, fListOf, fIpAdd, DL.seen, ty_int_non, ty_int_bool, ty_int_int, ty_int_str, ty_int_list, ty_int_tuple, ty_bool_non, ty_bool_bool, ty_bool_int, ty_bool_str, ty_bool_list, ty_bool_tuple, ty_str_non, ty_str_bool, ty_str_int, ty_str_str, ty_str_list, ty_str_tuple, ty_list_non, ty_list_bool, ty_list_int, ty_list_str, ty_list_list, ty_list_tuple, ty_tuple_non, ty_tuple_bool, ty_tuple_int, ty_tuple_str, ty_tuple_list, ty_tuple_tuple, ty_dict_non, ty_dict_bool, ty_dict_int, ty_dict_str, ty_dict_list, ty_dict_tuple, Bool.not_false, Bool.not_true, List.getElem?_cons_zero, List.getElem?_cons_succ, List.set_cons_zero, List.set_cons_succ, br_t, br_f, wipeE, ↓reduceIte]
  have ek : (some (1 + p)) = some (((1 + p).toNat : Nat) : Int) := by congr 1; omega
  rw [ek, cutD_to]
  obtain ⟨ks, eks⟩ := part_ints hy (1 + p).toNat
  rw [eks]
  refine ⟨ks, rfl, fun os z1 z2 => ⟨pow9, _, rfl, by decide, by decide, fun st s0 s1 => ?_⟩⟩
  have l1 : os.length = ks.length := z1.length_eq
  have l2 : ks.length = (ys.take (1 + p).toNat).length := by rw [eks, iL_len]
  have l3 : ys.length = c.toNat := by rw [hy.length_eq, rgD_len]
  rw [List.length_take, l3] at l2
  have ok : OkT n os st := ok_of_ring (by omega) (by omega) (by omega) (ring_of hy eks z1 z2) (fun z => by rw [z] at l1; simp at l1; omega) (by omega) s0 s1
  simp (config := { maxSteps := 4000000 }) only [d_law_q14, ten9, dRaise1, dXCall, dXApp, dCaught, dIsE, dXat, dNonE, dRev, dParV, dCallV, dStInt, dStTurn, dStNext, dMixed, dWhileS, dForS, dLcS, dStCells, dStPut, dAppPop, dBegun, dSeq, dCut, dNext, dFrzS, dSet, dSetN, dPar, dParN, dParM, dParNN, dDrop, dRet, dRetN, dIfS, dNever, dBreak, dCont, dAug, dApp, dPutL, dAugL, dIxO, dCBO, dOpO, dOpO2, dTupO, dWhile, dgName, dgNil, dgCons, dgTup, dAsg, dSeqI, dScrI, dRng1, dRng2, dRngN, dZip, dEnum, dFor, dLc, dLc2, dYes, dFrz, dVar, dC, dOp, dOpN, dUn, dChain, dNil, dCons, dTup, dCB, dCBN, dCall, dB, dAnd, dOr, dNot, dAndV, dOrV, dNotV, dIf, dNone, dSome, dSl, dIsi, dIsi2, dListR1, dListR2, dLenScr, dCallS, fLt, fLe, fGt, fGe, fSub, fFdiv, fMod, fPow, fIMul, fInt, fInt0, fCmp, fEq, fAdd, fMul, fRepN, fCatN, fNeg, fIs, fIn, flatD, fIx, fSl, fLen, fAbs, fIntOf, fTwo, fTupOf, fListOf, fIpAdd, DL.seen, ty_int_non, ty_int_bool, ty_int_int, ty_int_str, ty_int_list, ty_int_tuple, ty_bool_non, ty_bool_bool, ty_bool_int, ty_bool_str, ty_bool_list, ty_bool_tuple, ty_str_non, ty_str_bool, ty_str_int, ty_str_str, ty_str_list, ty_str_tuple, ty_list_non, ty_list_bool, ty_list_int, ty_list_str, ty_list_list, ty_list_tuple, ty_tuple_non, ty_tuple_bool, ty_tuple_int, ty_tuple_str, ty_tuple_list, ty_tuple_tuple, ty_dict_non, ty_dict_bool, ty_dict_int, ty_dict_str, ty_dict_list, ty_dict_tuple, Bool.not_false, Bool.not_true, List.getElem?_cons_zero, List.getElem?_cons_succ, List.set_cons_zero, List.set_cons_succ, br_t, br_f, wipeE, ↓reduceIte]
  refine ⟨[n, 9], rfl, by simp, fun k hk hk2 => ⟨n, 1, k, rfl, by omega, by omega, by decide, ?_, ?_, fun us ring hl => ?_⟩⟩
  · simp only [List.mem_cons, List.not_mem_nil, or_false] at hk
    omega
  · have := hk2 9 (by simp)
    omega
  have k2 : k ≤ 9 := hk2 9 (by simp)
  obtain ⟨j, j1, j2, jl⟩ := hl
  refine ⟨_, atI1, pow9, _, rfl, by decide, by decide, fun sv q0 q1 => ?_⟩
  have ok2 : OkT n us sv := ok_of_ring (by omega) (by omega) (Int.le_refl n) ring (fun z => by rw [z] at jl; simp at jl; omega) (by omega) q0 q1
  exact rd_q13 hD ok ok2 (by omega) fun _ _ _ _ _ _ _ _ _ _ _ => h _ _ _ _ _ _ _ _ _ _ _ _ _
theorem rd_law {mg : Str → Option Value} {T D : Addr} (hD : mg "BadTurning" = some (.ref D)) : ∀ (ns : List Int) (a : Addr), ns.length ≤ 1000 → d_law mg T { nx := fun _ => False, rt := fun x _ => x = .bool true } ((C.w ns T lamq :: startE 16 []).set 1 (.s a)) := by
  intro ns a hl
  show d_law mg T _ [C.w ns T lamq, C.s a, .no, .no, .no, .no, .no, .no, .no, .no, .no, .no, .no, .no, .no, .no, .no]
  simp (config := { maxSteps := 4000000 }) only [d_law, d_law_q19, d_law_q18, dRaise1, dXCall, dXApp, dCaught, dIsE, dXat, dNonE, dRev, dParV, dCallV, dStInt, dStTurn, dStNext, dMixed, dWhileS, dForS, dLcS, dStCells, dStPut, dAppPop, dBegun, dSeq, dCut, dNext, dFrzS, dSet, dSetN, dPar, dParN, dParM, dParNN, dDrop, dRet, dRetN, dIfS, dNever, dBreak, dCont, dAug, dApp, dPutL, dAugL, dIxO, dCBO, dOpO, dOpO2, dTupO, dWhile, dgName, dgNil, dgCons, dgTup, dAsg, dSeqI, dScrI, dRng1, dRng2, dRngN, dZip, dEnum, dFor, dLc, dLc2, dYes, dFrz, dVar, dC, dOp, dOpN, dUn, dChain, dNil, dCons, dTup, dCB, dCBN, dCall, dB, dAnd, dOr, dNot, dAndV, dOrV, dNotV, dIf, dNone, dSome, dSl, dIsi, dIsi2, dListR1, dListR2, dLenScr, dCallS, fLt, fLe, fGt, fGe, fSub, fFdiv, fMod, fPow, fIMul, fInt, fInt0, fCmp, fEq, fAdd, fMul, fRepN, fCatN, fNeg, fIs, fIn, flatD, fIx, fSl, fLen, fAbs, fIntOf, fTwo, fTupOf, fListOf, fIpAdd, DL.seen, ty_int_non, ty_int_bool, ty_int_int, ty_int_str, ty_int_list, ty_int_tuple, ty_bool_non, ty_bool_bool, ty_bool_int, ty_bool_str, ty_bool_list, ty_bool_tuple, ty_str_non, ty_str_bool, ty_str_int, ty_str_str, ty_str_list, ty_str_tuple, ty_list_non, ty_list_bool, ty_list_int, ty_list_str, ty_list_list, ty_list_tuple, ty_tuple_non, ty_tuple_bool, ty_tuple_int, ty_tuple_str, ty_tuple_list, ty_tuple_tuple, ty_dict_non, ty_dict_bool, ty_dict_int, ty_dict_str, ty_dict_list, ty_dict_tuple, Bool.not_false, Bool.not_true, List.getElem?_cons_zero, List.getElem?_cons_succ, List.set_cons_zero, List.set_cons_succ, br_t, br_f, wipeE, ↓reduceIte]
  refine ⟨⟨by omega, by omega⟩, by rw [rgD_len]; omega, fun _ E => ∃ c2 c3 c4 c5 c6 c7 c8 c9 c10 c11 c12 c13 c14 c15, E = [C.w ns T lamq, C.s a, c2, c3, c4, c5, c6, c7, c8, c9, c10, c11, c12, c13, c14, c15, .no], ⟨_, _, _, _, _, _, _, _, _, _, _, _, _, _, rfl⟩, ?_, fun _ _ => trivial⟩
  rintro i x E hx ⟨c2, c3, c4, c5, c6, c7, c8, c9, c10, c11, c12, c13, c14, c15, rfl⟩
  exact rd_q17 hD fun _ _ _ _ _ _ _ _ _ _ _ _ _ => ⟨_, _, _, _, _, _, _, _, _, _, _, _, _, _, rfl⟩
end B12


set_option maxHeartbeats 4000000
namespace B12
open PySem PySem.Spec PyProof.Rows L2 DL
abbrev N_law_begun : List Str := ["script", "great", "cell"]
abbrev sc_law_begun : Scope := defScope s_law_begun
theorem scp_law_begun : FnScope N_law_begun ["script"] sc_law_begun := ⟨rfl, rfl, rfl, by decide +kernel, rfl, by decide +kernel, by decide +kernel⟩
theorem ok_law_begun {P : Program} {w : World} {K : PySem.W.Frag} {mg : Str → Option Value} {base : Heap} (h : Hd K mg) : Fn P w K mg base 1 "_law_begun" (spB K) := by
  obtain ⟨f, fd, F, hm⟩ := h.f_law_begun
  have sc := scp_law_begun
  exact Fn.mk' (fn_begun (dn1 := dn1_begun) (dn2 := dn2_begun) F scp_law_begun (fun cdv A outer s H E hr => ⟨_, _, (s_setLcN 1 (l_lc [("cell", 2)] sc.nd (i_scr 0) (blkOk_by (own := [("cell", 2)]) (N := N_law_begun) (sc := sc_law_begun) (by decide +kernel)) (fun _ _ _ _ _ => (g_name 2 sc.nd)) (fun _ _ _ _ _ => (t_one (pt_cmp c_ge (pd_B cs_abs call_abs h.b_abs boot_abs (pa_c (pd_v 2) pa_n)) (pd_pow pd_i pd_i)))) (fun _ _ _ _ _ => (pd_sub (pd_B cs_abs call_abs h.b_abs boot_abs (pa_c (pd_v 2) pa_n)) (pd_pow pd_i pd_i))))), (n_of (l_lc [("cell", 2)] sc.nd (i_scr 0) (blkOk_by (own := [("cell", 2)]) (N := N_law_begun) (sc := sc_law_begun) (by decide +kernel)) (fun _ _ _ _ _ => (g_name 2 sc.nd)) (fun _ _ _ _ _ => t_yes) (fun _ _ _ _ _ => (pd_B cs_abs call_abs h.b_abs boot_abs (pa_c (pd_v 2) pa_n)))))⟩) r1_begun r2_begun) hm F.kp (F.bindsN fun _ _ _ _ _ _ us hl => match us, hl with | [_], _ => rfl)
abbrev sc_law_mixed : Scope := defScope s_law_mixed
theorem scp_law_mixed : FnScope N_law_mixed ["state"] sc_law_mixed := ⟨rfl, rfl, rfl, by decide +kernel, rfl, by decide +kernel, by decide +kernel⟩
theorem ok_law_mixed {P : Program} {w : World} {K : PySem.W.Frag} {mg : Str → Option Value} {base : Heap} (h : Hd K mg) : Fn P w K mg base 1 "_law_mixed" (spS K phi_law_mixed k_law_mixed) := by
  obtain ⟨f, fd, F, hm⟩ := h.f_law_mixed
  have sc := scp_law_mixed
  exact Fn.mk' (fn_state F scp_law_mixed len_law_mixed fun cdv A outer s H E hr => ⟨_, d_law_mixed, (q_mixed 0 1 2 hr sc.nd
  (q_cons (s_for (i_seq (pd_f (pn_lst (pa_c pd_i (pa_c pd_i (pa_c pd_i (pa_c pd_i pa_n))))))) (g_name 3 sc.nd)
  (q_cons (s_set 4 sc.nd (pd_add (pd_mul pd_i (pd_v 1)) (pd_fdiv (pd_v 3) pd_i)))
  (q_cons (s_for (i_seq (pd_stCells 0 hr)) (g_name 5 sc.nd)
  (q_one (s_set 4 sc.nd (pd_mod (pd_T cs_int call_int1 h.b_int boot_int (pa_c (pd_add (pd_add (pd_mul (pd_v 4) pd_i) (pd_v 5)) (pd_v 1)) pa_n)) (pd_v 3)))))
  (q_one (s_set 2 sc.nd (pd_add (pd_mul (pd_v 2) pd_i) (pd_mod (pd_T cs_int call_int1 h.b_int boot_int (pa_c (pd_pow (pd_v 4) pd_i) pa_n)) (pd_v 3))))))))
  (q_one (s_ret (pd_v 2))))), Nat.le_refl _, rd_law_mixed⟩) hm F.kp (F.bindsN fun _ _ _ _ _ _ us hl => match us, hl with | [_], _ => rfl)
abbrev sc_law_draw : Scope := defScope s_law_draw
theorem scp_law_draw : FnScope N_law_draw ["state", "room"] sc_law_draw := ⟨rfl, rfl, rfl, by decide +kernel, rfl, by decide +kernel, by decide +kernel⟩
theorem ok_law_draw {P : Program} {w : World} {K : PySem.W.Frag} {mg : Str → Option Value} {base : Heap} (h : Hd K mg) (c_law_mixed : Fn P w K mg base 1 "_law_mixed" (spS K phi_law_mixed k_law_mixed)) : Fn P w K mg base 2 "_law_draw" (spS K phi_law_draw k_law_draw) := by
  obtain ⟨f, fd, F, hm⟩ := h.f_law_draw
  have sc := scp_law_draw
  exact Fn.mk' (fn_state F scp_law_draw len_law_draw fun cdv A outer s H E hr => ⟨_, d_law_draw, (q_cut (s_if (pt_cmp (c_eq hr) (pd_stRest 0 hr) pd_i)
  (q_one (s_stRest 0 hr (pd_stNext 0 mixed_all c_law_mixed hr)))
  q_nil)
  (q_cons (s_set 2 sc.nd (pd_mod (pd_T cs_int call_int1 h.b_int boot_int (pa_c (pd_stRest 0 hr) pa_n)) (pd_v 1)))
  (q_cons (s_stRest 0 hr (pd_fdiv (pd_stRest 0 hr) (pd_v 1)))
  (q_one (s_ret (pd_v 2)))))), Nat.le_refl _, rd_law_draw⟩) hm F.kp (F.bindsN fun _ _ _ _ _ _ us hl => match us, hl with | [_, _], _ => rfl)
abbrev sc_law_pick : Scope := defScope s_law_pick
theorem scp_law_pick : FnScope N_law_pick ["state", "some"] sc_law_pick := ⟨rfl, rfl, rfl, by decide +kernel, rfl, by decide +kernel, by decide +kernel⟩
theorem ok_law_pick {P : Program} {w : World} {K : PySem.W.Frag} {mg : Str → Option Value} {base : Heap} (h : Hd K mg) (c_law_draw : Fn P w K mg base 2 "_law_draw" (spS K phi_law_draw k_law_draw)) : Fn P w K mg base 3 "_law_pick" (spS K phi_law_pick k_law_pick) := by
  obtain ⟨f, fd, F, hm⟩ := h.f_law_pick
  have sc := scp_law_pick
  exact Fn.mk' (fn_state F scp_law_pick len_law_pick fun cdv A outer s H E hr => ⟨_, d_law_pick, (q_one (s_ret (pd_ix (pd_v 1) (pd_callS 0 c_law_draw hr (pa_c (pd_B cs_len call_len h.b_len PySem.boot_len (pa_c (pd_v 1) pa_n)) pa_n))))), Nat.le_refl _, rd_law_pick⟩) hm F.kp (F.bindsN fun _ _ _ _ _ _ us hl => match us, hl with | [_, _], _ => rfl)
abbrev sc_law_shuffled : Scope := defScope s_law_shuffled
theorem scp_law_shuffled : FnScope N_law_shuffled ["state", "some"] sc_law_shuffled := ⟨rfl, rfl, rfl, by decide +kernel, rfl, by decide +kernel, by decide +kernel⟩
theorem ok_law_shuffled {P : Program} {w : World} {K : PySem.W.Frag} {mg : Str → Option Value} {base : Heap} (h : Hd K mg) (c_law_draw : Fn P w K mg base 2 "_law_draw" (spS K phi_law_draw k_law_draw)) : Fn P w K mg base 3 "_law_shuffled" (spS K phi_law_shuffled k_law_shuffled) := by
  obtain ⟨f, fd, F, hm⟩ := h.f_law_shuffled
  have sc := scp_law_shuffled
  exact Fn.mk' (fn_state F scp_law_shuffled len_law_shuffled fun cdv A outer s H E hr => ⟨_, d_law_shuffled, (q_cons (s_parNN 2 3 sc.nd (pn_T cn_list call_list_of h.b_list boot_list (pa_c (pd_v 1) pa_n)) (pn_lst pa_n))
  (q_cons (s_whileS (pt_cmpO 2 (c_ne hr) (pd_f (pn_lst pa_n)))
  (q_one (s_appPop 3 2 (pd_callS 0 c_law_draw hr (pa_c (pd_BO 2 cs_len call_len h.b_len PySem.boot_len) pa_n)))))
  (q_one (s_frz 3 (s_ret (pd_v 3)))))), Nat.le_refl _, rd_law_shuffled⟩) hm F.kp (F.bindsN fun _ _ _ _ _ _ us hl => match us, hl with | [_, _], _ => rfl)
abbrev sc_law_is : Scope := defScope s_law_is
theorem scp_law_is : FnScope N_law_is ["found", "due"] sc_law_is := ⟨rfl, rfl, rfl, by decide +kernel, rfl, by decide +kernel, by decide +kernel⟩
theorem ok_law_is0 {P : Program} {w : World} {K : PySem.W.Frag} {mg : Str → Option Value} {base : Heap} (h : Hd K mg) : Fn P w K mg base 1 "_law_is" (spD K (phi_law_is 0)) := by
  obtain ⟨f, fd, F, hm⟩ := h.f_law_is
  have sc := scp_law_is
  exact Fn.mk' (fn_pure F scp_law_is (len_law_is _) fun cdv A outer s H E hr => ⟨_, d_law_is0, (q_cons (s_if (pt_e (pd_isi2 (by rfl) h.b_isinstance (by rfl) h.b_tuple boot_tuple (by decide) (by rfl) h.b_list boot_list (by decide) (pd_v 1)))
  q_never
  q_nil)
  (q_cons (s_if (pt_e (pd_isi (by rfl) h.b_isinstance (by rfl) h.b_dict boot_dict (by decide) (pd_v 1)))
  q_never
  q_nil)
  (q_cons (s_if (pt_w (pw_o (pt_cmp c_is (pd_v 1) pd_n) (pw_o1 (pt_e (pd_isi (by rfl) h.b_isinstance (by rfl) h.b_str boot_str (by decide) (pd_v 1))))))
  (q_one (s_ret (pd_and (pd_cmp (c_eq hr) (pd_isi (by rfl) h.b_isinstance (by rfl) h.b_str boot_str (by decide) (pd_v 0)) (pd_isi (by rfl) h.b_isinstance (by rfl) h.b_str boot_str (by decide) (pd_v 1))) (pd_1 (pd_cmp (c_eq hr) (pd_v 0) (pd_v 1))))))
  q_nil)
  (q_one (s_ret (pd_and (pd_isi (by rfl) h.b_isinstance (by rfl) h.b_int boot_int (by decide) (pd_v 0)) (pd_and (pd_cmp (c_eq hr) (pd_v 0) (pd_v 1)) (pd_and (pd_cmp (c_eq hr) (pd_cmp c_is (pd_v 0) pd_b) (pd_cmp c_is (pd_v 1) pd_b)) (pd_1 (pd_cmp (c_eq hr) (pd_cmp c_is (pd_v 0) pd_b) (pd_cmp c_is (pd_v 1) pd_b))))))))))), rd_law_is0⟩) hm F.kp (F.bindsN fun _ _ _ _ _ _ us hl => match us, hl with | [_, _], _ => rfl)
theorem ok_law_isS {P : Program} {w : World} {K : PySem.W.Frag} {mg : Str → Option Value} {base : Heap} (h : Hd K mg) (n : Nat) (c_law_is : Fn P w K mg base (n + 1) "_law_is" (spD K (phi_law_is n))) : Fn P w K mg base (n + 2) "_law_is" (spD K (phi_law_is (n + 1))) := by
  obtain ⟨f, fd, F, hm⟩ := h.f_law_is
  have sc := scp_law_is
  exact Fn.mk' (fn_pure F scp_law_is (len_law_is _) fun cdv A outer s H E hr => ⟨_, d_law_is (phi_law_is n), (q_cons (s_if (pt_e (pd_isi2 (by rfl) h.b_isinstance (by rfl) h.b_tuple boot_tuple (by decide) (by rfl) h.b_list boot_list (by decide) (pd_v 1)))
  (q_cons (s_if (pt_w (pw_o (pt_cmp (c_ne hr) (pd_isi (by rfl) h.b_isinstance (by rfl) h.b_tuple boot_tuple (by decide) (pd_v 1)) (pd_isi (by rfl) h.b_isinstance (by rfl) h.b_tuple boot_tuple (by decide) (pd_v 0))) (pw_o (pt_cmp (c_ne hr) (pd_isi (by rfl) h.b_isinstance (by rfl) h.b_list boot_list (by decide) (pd_v 1)) (pd_isi (by rfl) h.b_isinstance (by rfl) h.b_list boot_list (by decide) (pd_v 0))) (pw_o1 (pt_cmp (c_ne hr) (pd_B cs_len call_len h.b_len PySem.boot_len (pa_c (pd_v 0) pa_n)) (pd_B cs_len call_len h.b_len PySem.boot_len (pa_c (pd_v 1) pa_n)))))))
  (q_one (s_ret pd_b))
  q_nil)
  (q_one (s_ret (pd_cmp (c_eq hr) (pd_f (n_of (l_lc [("one", 2), ("other", 3)] sc.nd (i_zip h.b_zip (pa_c (pd_v 0) (pa_c (pd_v 1) pa_n))) (blkOk_by (own := [("one", 2), ("other", 3)]) (N := N_law_is) (sc := sc_law_is) (by decide +kernel)) (fun _ _ _ _ _ => (g_tup 2 (gs_cons (g_name 2 sc.nd) (gs_cons (g_name 3 sc.nd) gs_nil)))) (fun _ _ _ _ _ => (t_one (pt_n (pt_e (pd_call (hk := Nat.le_refl _) c_law_is hr (pa_c (pd_v 2) (pa_c (pd_v 3) pa_n))))))) (fun _ _ _ _ _ => pd_i)))) (pd_f (pn_lst pa_n))))))
  q_nil)
  (q_cons (s_if (pt_e (pd_isi (by rfl) h.b_isinstance (by rfl) h.b_dict boot_dict (by decide) (pd_v 1)))
  q_never
  q_nil)
  (q_cons (s_if (pt_w (pw_o (pt_cmp c_is (pd_v 1) pd_n) (pw_o1 (pt_e (pd_isi (by rfl) h.b_isinstance (by rfl) h.b_str boot_str (by decide) (pd_v 1))))))
  (q_one (s_ret (pd_and (pd_cmp (c_eq hr) (pd_isi (by rfl) h.b_isinstance (by rfl) h.b_str boot_str (by decide) (pd_v 0)) (pd_isi (by rfl) h.b_isinstance (by rfl) h.b_str boot_str (by decide) (pd_v 1))) (pd_1 (pd_cmp (c_eq hr) (pd_v 0) (pd_v 1))))))
  q_nil)
  (q_one (s_ret (pd_and (pd_isi (by rfl) h.b_isinstance (by rfl) h.b_int boot_int (by decide) (pd_v 0)) (pd_and (pd_cmp (c_eq hr) (pd_v 0) (pd_v 1)) (pd_and (pd_cmp (c_eq hr) (pd_cmp c_is (pd_v 0) pd_b) (pd_cmp c_is (pd_v 1) pd_b)) (pd_1 (pd_cmp (c_eq hr) (pd_cmp c_is (pd_v 0) pd_b) (pd_cmp c_is (pd_v 1) pd_b))))))))))), rd_law_is n⟩) hm F.kp (F.bindsN fun _ _ _ _ _ _ us hl => match us, hl with | [_, _], _ => rfl)
theorem ok_law_is {P : Program} {w : World} {K : PySem.W.Frag} {mg : Str → Option Value} {base : Heap} (h : Hd K mg) : ∀ n : Nat, Fn P w K mg base (n + 1) "_law_is" (spD K (phi_law_is n))
  | 0 => ok_law_is0 h
  | n + 1 => ok_law_isS h n (ok_law_is h n)
abbrev sc_law_some_ring : Scope := defScope s_law_some_ring
theorem scp_law_some_ring : FnScope N_law_some_ring ["state", "n", "least", "most"] sc_law_some_ring := ⟨rfl, rfl, rfl, by decide +kernel, rfl, by decide +kernel, by decide +kernel⟩
theorem ok_law_some_ring {P : Program} {w : World} {K : PySem.W.Frag} {mg : Str → Option Value} {base : Heap} (h : Hd K mg) (c_law_shuffled : Fn P w K mg base 3 "_law_shuffled" (spS K phi_law_shuffled k_law_shuffled)) (c_law_draw : Fn P w K mg base 2 "_law_draw" (spS K phi_law_draw k_law_draw)) : Fn P w K mg base 4 "_law_some_ring" (spS K phi_law_some_ring k_law_some_ring) := by
  obtain ⟨f, fd, F, hm⟩ := h.f_law_some_ring
  have sc := scp_law_some_ring
  exact Fn.mk' (fn_state F scp_law_some_ring len_law_some_ring fun cdv A outer s H E hr => ⟨_, d_law_some_ring, (q_one (s_ret (pd_tup (pa_c (pd_v 1) (pa_c (pd_T cs_tuple call_tuple_of h.b_tuple boot_tuple (pa_c (pd_f (pn_B cn_sort cr_sortedI h.b_sorted boot_sorted (pa_c (pd_sl (pd_callS 0 c_law_shuffled hr (pa_c (pd_f (pn_listR1 h.b_list h.b_range (pd_v 1))) pa_n)) po_n (po_s (pd_add (pd_v 2) (pd_callS 0 c_law_draw hr (pa_c (pd_add (pd_sub (pd_v 3) (pd_v 2)) pd_i) pa_n))))) pa_n))) pa_n)) pa_n))))), Nat.le_refl _, rd_law_some_ring⟩) hm F.kp (F.bindsN fun _ _ _ _ _ _ us hl => match us, hl with | [_, _, _, _], _ => rfl)
abbrev sc_law : Scope := defScope s_law
theorem scp_law : FnScope N_law ["script"] sc_law := ⟨rfl, rfl, rfl, by decide +kernel, rfl, by decide +kernel, by decide +kernel⟩
theorem gC {X : Cx} {R0 g : Addr} (hR : X.mg "RhythmError" = some (.ref R0)) : ∀ (cdv : Value) (m : Nat), GivesS X ["action", "found", "error"] "_law_caught" (defScope s_law_caught) g cdv (defBody s_law_caught) "action" (lamQ X) m (tCaught X.K R0) := fun cdv m => gives_caught (by decide) rfl hR (by decide) rfl rfl rfl (by decide) (by decide) (by decide) (by decide) rfl
theorem scC : FnScope ["action", "found", "error"] ["action"] (defScope s_law_caught) := ⟨rfl, rfl, rfl, by decide +kernel, rfl, by decide +kernel, by decide +kernel⟩
theorem ok_law {P : Program} {w : World} {K : PySem.W.Frag} {mg : Str → Option Value} {base : Heap} (h : Hd K mg) (c_law_begun : Fn P w K mg base 1 "_law_begun" (spB K)) (c_law_draw : Fn P w K mg base 2 "_law_draw" (spS K phi_law_draw k_law_draw)) (c_law_shuffled : Fn P w K mg base 3 "_law_shuffled" (spS K phi_law_shuffled k_law_shuffled)) (c_law_some_ring : Fn P w K mg base 4 "_law_some_ring" (spS K phi_law_some_ring k_law_some_ring)) (c_law_agreed : Fn P w K mg base 1 "_law_agreed" (spD K phi_law_agreed)) (c_law_is : Fn P w K mg base 7 "_law_is" (spD K (phi_law_is 6))) (c_meetings : Fn P w K mg base 5 "meetings" (spD K phi_meetings)) (c_counts : Fn P w K mg base 6 "counts" (spD K phi_counts)) (c_law_pick : Fn P w K mg base 3 "_law_pick" (spS K phi_law_pick k_law_pick)) (c_law_common : Fn P w K mg base 1 "_law_common" (spD K phi_law_common)) (c_phases : Fn P w K mg base 5 "phases" (spD K phi_phases)) (cX_phases : FnX P w K mg base kX_phases "phases" (phiX_phases mg)) {T : Addr} (TB : LamX.TabB base mg (He.codeOf K ("law", none)) T) (hread : ∀ ns a, ns.length ≤ 1000 → d_law mg T { nx := fun _ => False, rt := fun x _ => x = .bool true } ((C.w ns T lamq :: startE 16 []).set 1 (.s a))) {fd0 : FuncData} (F0 : FunD K "law" "law" (defArgs s_law) (defBody s_law) (defScope s_law) [] [] (He.fAd K ("law", none)) fd0) : FnOk P w K mg base L2.CX0 8 (He.fAd K ("law", none)) fd0 ["script"] (spLawT K T) := by
  have sc := scp_law
  obtain ⟨gCa, gCd, FC, mC⟩ := h.f_law_caught
  obtain ⟨R0, hR⟩ := h.r_base
  have hokx := okx_ok h hR
  have bC : Binds K gCd ["action"] [] := FC.bindsN fun _ _ _ _ _ _ us hl => match us, hl with | [_], _ => rfl
  obtain ⟨t_BadTurning, tm_BadTurning, ti_BadTurning, tn_BadTurning⟩ := h.x_BadTurning.atI
  exact fn_lawT (p := ("law", none)) (i := 1) (st1 := (defBody s_law).headD (.Pass ⟨0, 0, 0, 0⟩)) (sts := (defBody s_law).tail) F0 scp_law fun cdv A outer s H E hcode hr => ⟨_, d_law mg T, s_begun 1 0 c_law_begun hr sc.nd, (q_cons (s_forS (i_r1 h.b_range (pa_c (pd_add pd_i (pd_B cs_min2 (call_min2 rfl) h.b_min boot_min (pa_c (pd_lenScr 0 h.b_len) (pa_c pd_i pa_n)))) pa_n)) (g_name 2 sc.nd)
  (q_cons (s_set 3 sc.nd (pd_add pd_i (pd_callS 1 c_law_draw hr (pa_c pd_i pa_n))))
  (q_cons (s_set 4 sc.nd (pd_add pd_i (pd_callS 1 c_law_draw hr (pa_c (pd_add pd_i (pd_fdiv (pd_v 3) pd_i)) pa_n))))
  (q_cons (s_set 5 sc.nd (pd_tup (pa_c (pd_v 3) (pa_c (pd_T cs_tuple call_tuple_of h.b_tuple boot_tuple (pa_c (pd_f (pn_B cn_sort cr_sortedI h.b_sorted boot_sorted (pa_c (pd_sl (pd_callS 1 c_law_shuffled hr (pa_c (pd_f (pn_listR1 h.b_list h.b_range (pd_v 4))) pa_n)) po_n (po_s (pd_add pd_i (pd_callS 1 c_law_draw hr (pa_c pd_i pa_n))))) pa_n))) pa_n)) (pa_c (pd_callS 1 c_law_draw hr (pa_c (pd_pow pd_i pd_i) pa_n)) pa_n)))))
  (q_cons (s_set 6 sc.nd (pd_tup (pa_c (pd_v 3) (pa_c (pd_ix (pd_callS 1 c_law_some_ring hr (pa_c (pd_v 3) (pa_c pd_i (pa_c (pd_B cs_minL (cr_min rfl) h.b_min boot_min (pa_c (pd_f (pn_lst (pa_c (pd_v 3) (pa_c pd_i pa_n)))) pa_n)) pa_n)))) pd_i) (pa_c (pd_callS 1 c_law_draw hr (pa_c (pd_pow pd_i pd_i) pa_n)) pa_n)))))
  (q_cons (s_set 7 sc.nd (pd_call c_law_agreed hr (pa_c (pd_v 5) (pa_c (pd_v 6) (pa_c (pd_v 3) pa_n)))))
  (q_cons (s_if (pt_w (pw_o (pt_n (pt_e (pd_call c_law_is hr (pa_c (pd_f (pn_T cn_list call_list_of h.b_list boot_list (pa_c (pd_call c_meetings hr (pa_c (pd_v 5) (pa_c (pd_v 6) pa_n))) pa_n))) (pa_c (pd_v 7) pa_n))))) (pw_o1 (pt_n (pt_e (pd_call c_law_is hr (pa_c (pd_ix (pd_call c_counts hr (pa_c (pd_f (pn_lst (pa_c (pd_v 5) (pa_c (pd_v 6) pa_n)))) pa_n)) pd_i) (pa_c (pd_ix (pd_v 7) pd_i) pa_n))))))))
  (q_one (s_ret pd_b))
  q_nil)
  (q_cons (s_forS (i_seq (pd_f (pn_lst (pa_c pd_i (pa_c pd_i (pa_c (pd_sub (pd_v 3) pd_i) (pa_c (pd_callS 1 c_law_draw hr (pa_c (pd_v 3) pa_n)) (pa_c (pd_callS 1 c_law_draw hr (pa_c (pd_v 3) pa_n)) pa_n)))))))) (g_name 8 sc.nd)
  (q_cons (s_set 13 sc.nd (pd_add pd_i (pd_callS 1 c_law_draw hr (pa_c (pd_callS 1 c_law_pick hr (pa_c (pd_f (pn_lst (pa_c pd_i (pa_c pd_i pa_n)))) pa_n)) pa_n))))
  (q_cons (s_set 14 sc.nd (pd_if (pt_cmp c_gt (pd_v 8) pd_i) (pd_fdiv (pd_v 3) (pd_call c_law_common hr (pa_c (pd_v 3) (pa_c (pd_v 8) pa_n)))) pd_i))
  (q_cons (s_setLc 15 (l_lc [("block", 16)] sc.nd (i_r1 h.b_range (pa_c (pd_v 14) pa_n)) (blkOk_by (own := [("block", 16)]) (N := N_law) (sc := sc_law) (by decide +kernel)) (fun _ _ _ _ _ => (g_name 16 sc.nd)) (fun _ _ _ _ _ => t_yes) (fun _ _ _ _ _ => (pd_mul (pd_v 13) (pd_ix (pd_v 7) (pd_mod (pd_T cs_int call_int1 h.b_int boot_int (pa_c (pd_mul (pd_v 16) (pd_v 8)) pa_n)) (pd_v 3)))))))
  (q_cons (s_if (pt_n (pt_e (pd_call c_law_is hr (pa_c (pd_f (pn_T cn_list call_list_of h.b_list boot_list (pa_c (pd_call c_phases hr (pa_c (pd_v 5) (pa_c (pd_v 6) (pa_c (pd_v 13) (pa_c (pd_v 8) pa_n))))) pa_n))) (pa_c (pd_v 15) pa_n)))))
  (q_one (s_ret pd_b))
  q_nil)
  (q_one (s_if (pt_w (pw_a (pt_cmp c_gt (pd_v 8) pd_i) (pw_a (pt_cmp (c_eq hr) (pd_call c_law_common hr (pa_c (pd_v 3) (pa_c (pd_v 8) pa_n))) pd_i) (pw_a1 (pt_cmp (c_ne hr) (pd_B cs_sum (cr_sum rfl) h.b_sum boot_sum (pa_c (pd_v 15) pa_n)) (pd_mul (pd_mul (pd_v 13) (pd_B cs_len call_len h.b_len PySem.boot_len (pa_c (pd_ix (pd_v 5) pd_i) pa_n))) (pd_B cs_len call_len h.b_len PySem.boot_len (pa_c (pd_ix (pd_v 6) pd_i) pa_n))))))))
  (q_one (s_ret pd_b))
  q_nil)))))))
  (q_cons (s_set 9 sc.nd (pd_add pd_i (pd_callS 1 c_law_draw hr (pa_c pd_i pa_n))))
  (q_cons (s_set 10 sc.nd (pd_tup (pa_c (pd_v 9) (pa_c (pd_ix (pd_callS 1 c_law_some_ring hr (pa_c (pd_v 9) (pa_c pd_i (pa_c (pd_B cs_minL (cr_min rfl) h.b_min boot_min (pa_c (pd_f (pn_lst (pa_c (pd_v 9) (pa_c pd_i pa_n)))) pa_n)) pa_n)))) pd_i) (pa_c (pd_callS 1 c_law_draw hr (pa_c (pd_pow pd_i pd_i) pa_n)) pa_n)))))
  (q_cons (s_set 11 sc.nd (pd_call c_law_common hr (pa_c (pd_v 3) (pa_c (pd_v 9) pa_n))))
  (q_cons (s_if (pt_n (pt_e (pd_call c_law_is hr (pa_c (pd_f (pn_T cn_list call_list_of h.b_list boot_list (pa_c (pd_call c_meetings hr (pa_c (pd_v 5) (pa_c (pd_v 10) pa_n))) pa_n))) (pa_c (pd_call c_law_agreed hr (pa_c (pd_v 5) (pa_c (pd_v 10) (pa_c (pd_v 11) pa_n)))) pa_n)))))
  (q_one (s_ret pd_b))
  q_nil)
  (q_cons (s_caught 12 0 FC mC scC (gC hR) TB hcode hr cX_phases sc.nd hokx (fun A outer s H E f c hr => (pa_c (pd_v 5) (pa_c (pd_v 10) (pa_c pd_i (pa_c pd_i pa_n))))) (hL := (show LamX.lamSB (defScope s_law) _ = true from by decide +kernel)) (hb := bC))
  (q_one (s_if (pt_w (pw_a (pt_cmp (c_ne hr) (pd_v 9) (pd_v 3)) (pw_a1 (pt_w (pw_o (pt_n (pt_e (pd_isE 12 ti_BadTurning tn_BadTurning h.b_isinstance tm_BadTurning))) (pw_o1 (pt_n (pt_e (pd_call c_law_is hr (pa_c (pd_xat 12 h.x_BadTurning.atA) (pa_c pd_i pa_n)))))))))))
  (q_one (s_ret pd_b))
  q_nil)))))))))))))))
  (q_one (s_ret pd_b))), cost_law, hread⟩
end B12


set_option maxHeartbeats 0
namespace B12
open PySem PySem.Spec PyProof.Rows L2 DL
def h_is_integer : He.DefD := ⟨("is_integer", none), "is_integer", "is_integer", defArgs s_is_integer, defBody s_is_integer, defScope s_is_integer, [], []⟩
def h_is_within : He.DefD := ⟨("is_within", none), "is_within", "is_within", defArgs s_is_within, defBody s_is_within, defScope s_is_within, [], []⟩
def h_is_turning : He.DefD := ⟨("is_turning", none), "is_turning", "is_turning", defArgs s_is_turning, defBody s_is_turning, defScope s_is_turning, [], []⟩
def h_need_turnings : He.DefD := ⟨("need_turnings", none), "need_turnings", "need_turnings", defArgs s_need_turnings, defBody s_need_turnings, defScope s_need_turnings, [], []⟩
def h_shared : He.DefD := ⟨("shared", none), "shared", "shared", defArgs s_shared, defBody s_shared, defScope s_shared, [], []⟩
def h_least_common : He.DefD := ⟨("least_common", none), "least_common", "least_common", defArgs s_least_common, defBody s_least_common, defScope s_least_common, [], []⟩
def h_bond_of : He.DefD := ⟨("bond_of", none), "bond_of", "bond_of", defArgs s_bond_of, defBody s_bond_of, defScope s_bond_of, [], []⟩
def h_need_bond : He.DefD := ⟨("need_bond", none), "need_bond", "need_bond", defArgs s_need_bond, defBody s_need_bond, defScope s_need_bond, [], []⟩
def h_rests_of : He.DefD := ⟨("rests_of", none), "rests_of", "rests_of", defArgs s_rests_of, defBody s_rests_of, defScope s_rests_of, [], []⟩
def h_by_class : He.DefD := ⟨("by_class", none), "by_class", "by_class", defArgs s_by_class, defBody s_by_class, defScope s_by_class, [], []⟩
def h_parted : He.DefD := ⟨("parted", none), "parted", "parted", defArgs s_parted, defBody s_parted, defScope s_parted, [], []⟩
def h_counts : He.DefD := ⟨("counts", none), "counts", "counts", defArgs s_counts, defBody s_counts, defScope s_counts, [], []⟩
def h_need_two : He.DefD := ⟨("need_two", none), "need_two", "need_two", defArgs s_need_two, defBody s_need_two, defScope s_need_two, [], []⟩
def h_meetings_of : He.DefD := ⟨("meetings_of", none), "meetings_of", "meetings_of", defArgs s_meetings_of, defBody s_meetings_of, defScope s_meetings_of, [], []⟩
def h_meetings : He.DefD := ⟨("meetings", none), "meetings", "meetings", defArgs s_meetings, defBody s_meetings, defScope s_meetings, [], []⟩
def h_phases : He.DefD := ⟨("phases", none), "phases", "phases", defArgs s_phases, defBody s_phases, defScope s_phases, [], []⟩
def h_law_begun : He.DefD := ⟨("_law_begun", none), "_law_begun", "_law_begun", defArgs s_law_begun, defBody s_law_begun, defScope s_law_begun, [], []⟩
def h_law_mixed : He.DefD := ⟨("_law_mixed", none), "_law_mixed", "_law_mixed", defArgs s_law_mixed, defBody s_law_mixed, defScope s_law_mixed, [], []⟩
def h_law_draw : He.DefD := ⟨("_law_draw", none), "_law_draw", "_law_draw", defArgs s_law_draw, defBody s_law_draw, defScope s_law_draw, [], []⟩
def h_law_pick : He.DefD := ⟨("_law_pick", none), "_law_pick", "_law_pick", defArgs s_law_pick, defBody s_law_pick, defScope s_law_pick, [], []⟩
def h_law_shuffled : He.DefD := ⟨("_law_shuffled", none), "_law_shuffled", "_law_shuffled", defArgs s_law_shuffled, defBody s_law_shuffled, defScope s_law_shuffled, [], []⟩
def h_law_is : He.DefD := ⟨("_law_is", none), "_law_is", "_law_is", defArgs s_law_is, defBody s_law_is, defScope s_law_is, [], []⟩
def h_law_caught : He.DefD := ⟨("_law_caught", none), "_law_caught", "_law_caught", defArgs s_law_caught, defBody s_law_caught, defScope s_law_caught, [], []⟩
def h_law_common : He.DefD := ⟨("_law_common", none), "_law_common", "_law_common", defArgs s_law_common, defBody s_law_common, defScope s_law_common, [], []⟩
def h_law_some_ring : He.DefD := ⟨("_law_some_ring", none), "_law_some_ring", "_law_some_ring", defArgs s_law_some_ring, defBody s_law_some_ring, defScope s_law_some_ring, [], []⟩
def h_law_agreed : He.DefD := ⟨("_law_agreed", none), "_law_agreed", "_law_agreed", defArgs s_law_agreed, defBody s_law_agreed, defScope s_law_agreed, [], []⟩
def h_law : He.DefD := ⟨("law", none), "law", "law", defArgs s_law, defBody s_law, defScope s_law, [], []⟩
def h_BadTurning_init : He.DefD := ⟨("BadTurning", some "__init__"), "__init__", "BadTurning.__init__", defArgs s_BadTurning_init, defBody s_BadTurning_init, defScope s_BadTurning_init, [], []⟩
def hfns : List He.DefD := [h_is_integer, h_is_within, h_is_turning, h_need_turnings, h_shared, h_least_common, h_bond_of, h_need_bond, h_rests_of, h_by_class, h_parted, h_counts, h_need_two, h_meetings_of, h_meetings, h_phases, h_law_begun, h_law_mixed, h_law_draw, h_law_pick, h_law_shuffled, h_law_is, h_law_caught, h_law_common, h_law_some_ring, h_law_agreed, h_law, h_BadTurning_init]
def hfacts : List He.Fa := [.glo "is_integer", .glo "is_within", .glo "is_turning", .glo "need_turnings", .glo "shared", .glo "least_common", .glo "bond_of", .glo "need_bond", .glo "rests_of", .glo "by_class", .glo "parted", .glo "counts", .glo "need_two", .glo "meetings_of", .glo "meetings", .glo "phases", .glo "_law_begun", .glo "_law_mixed", .glo "_law_draw", .glo "_law_pick", .glo "_law_shuffled", .glo "_law_is", .glo "_law_caught", .glo "_law_common", .glo "_law_some_ring", .glo "_law_agreed", .glo "law", .free "ValueError", .free "abs", .free "all", .free "bool", .free "dict", .free "enumerate", .free "int", .free "isinstance", .free "len", .free "list", .free "min", .free "range", .free "sorted", .free "str", .free "sum", .free "tuple", .free "zip", .int "MOST_LENGTH" 240, .int "MOST_START" 1000000000, .int "MOST_TURNINGS" 6, .int "MOST_BOND" 50000, .int "MOST_ROUNDS" 1000, .glo "RhythmError", .glo "BadTurning"]
abbrev Rw : PySem.W.OpenRow := PySem.W.OpenLaw.row (PySem.Challenge.rw_barhouse_k12_whole_phases_block_by_block)
def exB (K : PySem.W.Frag) : Bool := errHB K "BadTurning" "index" "RhythmError"
abbrev hook : PySem.W.Hook := hookS 5 hfacts hfns [("law", none)] exB
def obsv (s : PySem.W.SharedT) : He.AlX := obsS 5 hfacts hfns [("law", none)] exB (HandSHeadRun.getT s)
theorem obsv_eq (s : PySem.W.SharedT) : obsv s = hook.obs s.abs := obsS_eq (HandSHeadRun.getT_eq s)
def loose0 : List PySem.Str := ["RhythmError", "TooMany", "BadCount", "BadNumber", "BadTurning", "is_integer", "MOST_LENGTH", "MOST_START", "MOST_TURNINGS", "MOST_BOND", "is_within", "is_turning", "need_turnings", "shared", "least_common", "bond_of", "need_bond", "rests_of", "by_class", "parted", "counts", "MOST_ROUNDS", "need_two", "meetings_of", "meetings", "phases", "_law_begun", "_law_mixed", "_law_draw", "_law_pick"]
def loose1 : List PySem.Str := ["_law_shuffled", "_law_is", "_law_caught", "_law_common", "_law_some_ring", "_law_agreed"]
def loose : List PySem.Str := loose0 ++ loose1
theorem run (w : World) : HandSHeadRun.RunEq Rw (PySem.W.view Rw.prog [41]) hook obsv 40000 loose w := by
  intro os
  kernel_rfl
theorem hd_of {K : PySem.W.Frag} {h : Heap} {mg : Str → Option Value} (X : K.In h) (G : h.Ns mainGlobals mg) (c : He.SaysD hfacts hfns K) (more : exB K = true) : Hd K mg where
  f_is_integer := (c.def_ 0 (d := h_is_integer) rfl).elim fun fd F => ⟨_, fd, F, He.glo_ok X G (c.fact 0 (f := .glo "is_integer") rfl)⟩
  f_is_within := (c.def_ 1 (d := h_is_within) rfl).elim fun fd F => ⟨_, fd, F, He.glo_ok X G (c.fact 1 (f := .glo "is_within") rfl)⟩
  f_is_turning := (c.def_ 2 (d := h_is_turning) rfl).elim fun fd F => ⟨_, fd, F, He.glo_ok X G (c.fact 2 (f := .glo "is_turning") rfl)⟩
  f_need_turnings := (c.def_ 3 (d := h_need_turnings) rfl).elim fun fd F => ⟨_, fd, F, He.glo_ok X G (c.fact 3 (f := .glo "need_turnings") rfl)⟩
  f_shared := (c.def_ 4 (d := h_shared) rfl).elim fun fd F => ⟨_, fd, F, He.glo_ok X G (c.fact 4 (f := .glo "shared") rfl)⟩
  f_least_common := (c.def_ 5 (d := h_least_common) rfl).elim fun fd F => ⟨_, fd, F, He.glo_ok X G (c.fact 5 (f := .glo "least_common") rfl)⟩
  f_bond_of := (c.def_ 6 (d := h_bond_of) rfl).elim fun fd F => ⟨_, fd, F, He.glo_ok X G (c.fact 6 (f := .glo "bond_of") rfl)⟩
  f_need_bond := (c.def_ 7 (d := h_need_bond) rfl).elim fun fd F => ⟨_, fd, F, He.glo_ok X G (c.fact 7 (f := .glo "need_bond") rfl)⟩
  f_rests_of := (c.def_ 8 (d := h_rests_of) rfl).elim fun fd F => ⟨_, fd, F, He.glo_ok X G (c.fact 8 (f := .glo "rests_of") rfl)⟩
  f_by_class := (c.def_ 9 (d := h_by_class) rfl).elim fun fd F => ⟨_, fd, F, He.glo_ok X G (c.fact 9 (f := .glo "by_class") rfl)⟩
  f_parted := (c.def_ 10 (d := h_parted) rfl).elim fun fd F => ⟨_, fd, F, He.glo_ok X G (c.fact 10 (f := .glo "parted") rfl)⟩
  f_counts := (c.def_ 11 (d := h_counts) rfl).elim fun fd F => ⟨_, fd, F, He.glo_ok X G (c.fact 11 (f := .glo "counts") rfl)⟩
  f_need_two := (c.def_ 12 (d := h_need_two) rfl).elim fun fd F => ⟨_, fd, F, He.glo_ok X G (c.fact 12 (f := .glo "need_two") rfl)⟩
  f_meetings_of := (c.def_ 13 (d := h_meetings_of) rfl).elim fun fd F => ⟨_, fd, F, He.glo_ok X G (c.fact 13 (f := .glo "meetings_of") rfl)⟩
  f_meetings := (c.def_ 14 (d := h_meetings) rfl).elim fun fd F => ⟨_, fd, F, He.glo_ok X G (c.fact 14 (f := .glo "meetings") rfl)⟩
  f_phases := (c.def_ 15 (d := h_phases) rfl).elim fun fd F => ⟨_, fd, F, He.glo_ok X G (c.fact 15 (f := .glo "phases") rfl)⟩
  f_law_begun := (c.def_ 16 (d := h_law_begun) rfl).elim fun fd F => ⟨_, fd, F, He.glo_ok X G (c.fact 16 (f := .glo "_law_begun") rfl)⟩
  f_law_mixed := (c.def_ 17 (d := h_law_mixed) rfl).elim fun fd F => ⟨_, fd, F, He.glo_ok X G (c.fact 17 (f := .glo "_law_mixed") rfl)⟩
  f_law_draw := (c.def_ 18 (d := h_law_draw) rfl).elim fun fd F => ⟨_, fd, F, He.glo_ok X G (c.fact 18 (f := .glo "_law_draw") rfl)⟩
  f_law_pick := (c.def_ 19 (d := h_law_pick) rfl).elim fun fd F => ⟨_, fd, F, He.glo_ok X G (c.fact 19 (f := .glo "_law_pick") rfl)⟩
  f_law_shuffled := (c.def_ 20 (d := h_law_shuffled) rfl).elim fun fd F => ⟨_, fd, F, He.glo_ok X G (c.fact 20 (f := .glo "_law_shuffled") rfl)⟩
  f_law_is := (c.def_ 21 (d := h_law_is) rfl).elim fun fd F => ⟨_, fd, F, He.glo_ok X G (c.fact 21 (f := .glo "_law_is") rfl)⟩
  f_law_caught := (c.def_ 22 (d := h_law_caught) rfl).elim fun fd F => ⟨_, fd, F, He.glo_ok X G (c.fact 22 (f := .glo "_law_caught") rfl)⟩
  f_law_common := (c.def_ 23 (d := h_law_common) rfl).elim fun fd F => ⟨_, fd, F, He.glo_ok X G (c.fact 23 (f := .glo "_law_common") rfl)⟩
  f_law_some_ring := (c.def_ 24 (d := h_law_some_ring) rfl).elim fun fd F => ⟨_, fd, F, He.glo_ok X G (c.fact 24 (f := .glo "_law_some_ring") rfl)⟩
  f_law_agreed := (c.def_ 25 (d := h_law_agreed) rfl).elim fun fd F => ⟨_, fd, F, He.glo_ok X G (c.fact 25 (f := .glo "_law_agreed") rfl)⟩
  f_law := (c.def_ 26 (d := h_law) rfl).elim fun fd F => ⟨_, fd, F, He.glo_ok X G (c.fact 26 (f := .glo "law") rfl)⟩
  b_ValueError := He.free_ok X G (c.fact 27 (f := .free "ValueError") rfl)
  b_abs := He.free_ok X G (c.fact 28 (f := .free "abs") rfl)
  b_all := He.free_ok X G (c.fact 29 (f := .free "all") rfl)
  b_bool := He.free_ok X G (c.fact 30 (f := .free "bool") rfl)
  b_dict := He.free_ok X G (c.fact 31 (f := .free "dict") rfl)
  b_enumerate := He.free_ok X G (c.fact 32 (f := .free "enumerate") rfl)
  b_int := He.free_ok X G (c.fact 33 (f := .free "int") rfl)
  b_isinstance := He.free_ok X G (c.fact 34 (f := .free "isinstance") rfl)
  b_len := He.free_ok X G (c.fact 35 (f := .free "len") rfl)
  b_list := He.free_ok X G (c.fact 36 (f := .free "list") rfl)
  b_min := He.free_ok X G (c.fact 37 (f := .free "min") rfl)
  b_range := He.free_ok X G (c.fact 38 (f := .free "range") rfl)
  b_sorted := He.free_ok X G (c.fact 39 (f := .free "sorted") rfl)
  b_str := He.free_ok X G (c.fact 40 (f := .free "str") rfl)
  b_sum := He.free_ok X G (c.fact 41 (f := .free "sum") rfl)
  b_tuple := He.free_ok X G (c.fact 42 (f := .free "tuple") rfl)
  b_zip := He.free_ok X G (c.fact 43 (f := .free "zip") rfl)
  g_MOST_LENGTH := He.int_ok X G (c.fact 44 (f := .int "MOST_LENGTH" 240) rfl)
  g_MOST_START := He.int_ok X G (c.fact 45 (f := .int "MOST_START" 1000000000) rfl)
  g_MOST_TURNINGS := He.int_ok X G (c.fact 46 (f := .int "MOST_TURNINGS" 6) rfl)
  g_MOST_BOND := He.int_ok X G (c.fact 47 (f := .int "MOST_BOND" 50000) rfl)
  g_MOST_ROUNDS := He.int_ok X G (c.fact 48 (f := .int "MOST_ROUNDS" 1000) rfl)
  r_base := ⟨_, He.glo_ok X G (c.fact 49 (f := .glo "RhythmError") rfl)⟩
  x_BadTurning := (c.def_ 27 (d := h_BadTurning_init) rfl).elim fun fd F => errHB_ok more (He.glo_ok X G (c.fact 50 (f := .glo "BadTurning") rfl)) (He.glo_ok X G (c.fact 49 (f := .glo "RhythmError") rfl)) F
theorem hd_law {P : Program} {w : World} {K : PySem.W.Frag} {base : Heap} {mg : Str → Option Value} (h : Hd K mg) {T : Addr} (TB : LamX.TabB base mg (He.codeOf K ("law", none)) T) {fd0 : FuncData} (F0 : FunD K "law" "law" (defArgs s_law) (defBody s_law) (defScope s_law) [] [] (He.fAd K ("law", none)) fd0) : FnOk P w K mg base L2.CX0 8 (He.fAd K ("law", none)) fd0 ["script"] (spLawT K T) := by
  have c_law_begun : Fn P w K mg base 1 "_law_begun" (spB K) := ok_law_begun h
  have c_law_mixed := ok_law_mixed (P := P) (w := w) (base := base) h
  have c_law_draw := ok_law_draw (P := P) (w := w) (base := base) h c_law_mixed
  have c_law_shuffled := ok_law_shuffled (P := P) (w := w) (base := base) h c_law_draw
  have c_law_some_ring := ok_law_some_ring (P := P) (w := w) (base := base) h c_law_shuffled c_law_draw
  have c_law_agreed := ok_law_agreed (P := P) (w := w) (base := base) h
  have c_law_is : Fn P w K mg base 7 "_law_is" (spD K (phi_law_is 6)) := ok_law_is h 6
  have c_is_integer := ok_is_integer (P := P) (w := w) (base := base) h
  have c_is_within := ok_is_within (P := P) (w := w) (base := base) h c_is_integer
  have c_is_turning := ok_is_turning (P := P) (w := w) (base := base) h c_is_within
  have c_need_two := ok_need_two (P := P) (w := w) (base := base) h c_is_turning
  have c_shared := ok_shared (P := P) (w := w) (base := base) h
  have c_rests_of := ok_rests_of (P := P) (w := w) (base := base) h
  have c_meetings_of := ok_meetings_of (P := P) (w := w) (base := base) h c_shared c_rests_of
  have c_meetings := ok_meetings (P := P) (w := w) (base := base) h c_need_two c_meetings_of
  have c_need_turnings := ok_need_turnings (P := P) (w := w) (base := base) h c_is_turning
  have c_least_common := ok_least_common (P := P) (w := w) (base := base) h c_shared
  have c_bond_of := ok_bond_of (P := P) (w := w) (base := base) h c_shared c_least_common
  have c_need_bond := ok_need_bond (P := P) (w := w) (base := base) h c_need_turnings c_bond_of
  have c_by_class := ok_by_class (P := P) (w := w) (base := base) h c_shared
  have c_parted := ok_parted (P := P) (w := w) (base := base) h c_shared c_by_class c_rests_of
  have c_counts := ok_counts (P := P) (w := w) (base := base) h c_need_bond c_parted
  have c_law_pick := ok_law_pick (P := P) (w := w) (base := base) h c_law_draw
  have c_law_common := ok_law_common (P := P) (w := w) (base := base) h
  have c_phases := ok_phases (P := P) (w := w) (base := base) h c_need_two c_is_within c_shared c_meetings_of
  have cX_phases := ok_phasesX (P := P) (w := w) (base := base) h c_need_two c_is_within c_shared c_meetings_of
  obtain ⟨D_BadTurning, _, _, _, ⟨hD_BadTurning, _⟩, _⟩ := h.x_BadTurning.ex
  exact ok_law h c_law_begun c_law_draw c_law_shuffled c_law_some_ring c_law_agreed c_law_is c_meetings c_counts c_law_pick c_law_common c_phases cX_phases TB (rd_law hD_BadTurning) F0
theorem facts {P : Program} {w : World} {K : PySem.W.Frag} {h : Heap} {mg : Str → Option Value} {f : Addr} (X : K.In h) (G : h.Ns mainGlobals mg) (hfa : mg ("law" : Str) = some (.ref f)) (c : He.SaysD hfacts hfns K) (more : exB K = true) :
    ∃ fd : FuncData, (∀ (s : Shared) (v : Value), BindsTo s fd ⟨[v], []⟩ [("script", v)]) ∧ ∀ (base : Heap) (T : Addr), LamX.TabB base mg (He.codeOf K ("law", none)) T → FnOk P w K mg base L2.CX0 8 f fd ["script"] (spLawT K T) := by
  obtain ⟨fd, F⟩ := c.def_ 26 (d := h_law) rfl
  have e := hfa.symm.trans (He.glo_ok X G (c.fact 26 (f := .glo "law") rfl))
  cases e
  have b := FunD.bindsA (ps := ["script"]) F fun _ _ _ _ _ _ us hl => match us, hl with | [_], _ => rfl
  exact ⟨fd, fun s v => b s [v] rfl, fun base T TB => hd_law (hd_of X G c more) TB F⟩
end B12
open PySem PySem.W PySem.Calls PyProof.Rows
theorem PySem.Challenge.cw_barhouse_k12_whole_phases_block_by_block_holds : PySem.Challenge.rw_barhouse_k12_whole_phases_block_by_block.Holds := by
  w_on; o_law
  refine HandSHeadRun.head_any (r := OpenLaw.row PySem.Challenge.rw_barhouse_k12_whole_phases_block_by_block) (q := view (OpenLaw.row PySem.Challenge.rw_barhouse_k12_whole_phases_block_by_block).prog [41]) (H := B12.hook) (ob := B12.obsv) (M := 40000) (loose := B12.loose) (d := HandSHeadRun.topDef (OpenLaw.row PySem.Challenge.rw_barhouse_k12_whole_phases_block_by_block).prog 41) (kwd := []) B12.obsv_eq
    (by kernel_rfl) (fun s => by kernel_rfl) B12.run (by kernel_rfl) (by kernel_rfl) (by kernel_rfl) (by rfl) (by first | assumption | decide +kernel) (by decide +kernel) ⟨rfl, rfl, rfl, rfl, rfl, by decide +kernel⟩ ?hw ?hc
  case hw => w_witness2
  case hc =>
    refine LamX.walk_ofTsE (l := PySem.Challenge.rw_barhouse_k12_whole_phases_block_by_block) (n := 63) (k := 8) (x := "script") (CX := fun _ => L2.CX0) rfl (by decide) (by kernel_rfl) ⟨rfl, by decide, by decide⟩ ?F (fun _ _ _ _ _ z => z)
    intro w mg fa h Y G hmg0
    obtain ⟨K, KX, c⟩ := Y
    have hmg : mg ("law" : PySem.Str) = some (.ref fa) := by
      have e : (HandSHeadRun.topDef (OpenLaw.row PySem.Challenge.rw_barhouse_k12_whole_phases_block_by_block).prog 41).name = ("law" : PySem.Str) := by kernel_rfl
      rw [← e]
      exact hmg0
    obtain ⟨fd, hb, hF⟩ := B12.facts (P := (PySem.Challenge.rw_barhouse_k12_whole_phases_block_by_block).prog) (w := w) KX G hmg c.t.d c.more
    refine ⟨K, KX, fd, [He.cT K ("law", none)], DL.spLawT K (He.cT K ("law", none)).2, fun p hp => ?_, fun p hp => ?_, fun p hp => ?_, hb, fun H a ns hl _ hT hS => ⟨a, ns, rfl, hT _ List.mem_cons_self, hS, by omega, fun _ => rfl⟩, fun base _ _ TB => hF base _ (TB _ List.mem_cons_self)⟩
    · rw [List.mem_singleton.mp hp]
      exact c.empty _ List.mem_cons_self
    · rw [List.mem_singleton.mp hp]
      exact c.out _ List.mem_cons_self
    · rw [List.mem_singleton.mp hp]
      exact PySem.W.codeHd_of_K KX (c.hd _ List.mem_cons_self)

