import PyProof.Rows.All
import Wide.All
import OpenK.AllK
import Wide.FinOn
import HandS.ForMost
import HandS.ForExc
import HandS.IsInst
import HandS.ExcIs
import HandS.ExcField
import HandS.TupAny
import HandS.Flow
import HandS.Walk
import HandS.SortInts
import HandS.Lambda
import HandS.Wide
import PyProof.EqKinds
import PyProof.NeKinds
import HandS.Deep
import PyProof.P3In
import HandS.TupMul
import HandS.Property
import HandS.TupLen
import HandS.WordsDict
import HandS.TryOnly
import HandS.Small
import HandS.Iter
import HandS.Ends
import HandS.Defaults
import HandS.Head0
import HandS.Head1
import HandS.Head2
import HandS.HeadEnd
import HandS.HeadHook1
import HandS.HeadHook2
import HandS.HeadHook3
import HandS.Strs
import HandS.SetFor
import HandS.SetTxt0
import PyProof.ReprRoads
import PyProof.ReprText
import PyProof.CallFns
import HandS.Style
import HandS.ExcInit
import HandS.Text
import KE.GoesEnum
import HandS.Dict
import HandS.More
import HandS.Exc
import HandS.ExcValue
import HandS.EndBits
import KE.KNestM
import HandS.New
import HandS.Zip
import KE.KCallOwn
import HandS.Replace
import PySem.Challenge.RW_smallasks_k04_machines_read_texts
set_option Elab.async false
set_option linter.all false
set_option Elab.async false
set_option linter.all false
set_option maxRecDepth 100000
/-! He1: a caught exception kept as a value. -/
namespace Mi
open PySem PySem.Spec PyProof.Rows L2
/-- an exception that was caught: at a, of the class cls, its dict at d -/
def EXO (cls : Value) (d : Option Addr) (a : Addr) : HO := .ext fun h => ∃ (oe : Obj) (vs : Array Value), h.get? a = some oe ∧ Zc cls d oe ∧ oe.data = .fields vs
theorem exo2_ok {P : Program} {w : World} {H : Hp} {h : Heap} {a : Addr} {cls : Value} {d : Option Addr} {oe : Obj} {vs : Array Value} (e : h.get? a = some oe) (z : Zc cls d oe) (hd : oe.data = .fields vs) : ObjOk P w H h a (EXO cls d a) :=
  ⟨⟨oe, vs, e, z, hd⟩, ⟨oe, e⟩, fun _ _ ⟨o, v, q, r⟩ k => ⟨o, v, k o q, r⟩⟩
section
variable {X : Cx} {pins : List (Addr × Obj)} {σ : L2.St} {H : Hp} {s sI : Shared}
/-- the caught exception is tracked from now on -/
theorem Inv.caught {a : Addr} {cls : Value} {d : Option Addr} {oe : Obj} {vs : Array Value} (I : Inv X pins σ H s) (he : s.heap.get? a = some oe) (hz : Zc cls d oe) (hd : oe.data = .fields vs) (na : H a = none) (nL : a ≠ X.env.locals) (n0 : ∀ o, X.s_0.heap.get? a = some o → X.H_0 a = none → a ∉ X.ex → False) (np : ∀ p ∈ X.pn ++ pins, p.1 ≠ a) :
    Inv (X.suite a (X.pn ++ pins)) [] σ (upd H a (EXO cls d a)) s := by
  have neN : ∀ b o, H b = some o → b ≠ a := fun b o e z => by
    rw [z, na] at e
    cases e
  refine ⟨I.ok.suite _ _, I.os, I.bare, ⟨I.base.keep, I.base.slot, fun b o e n hx => ?_, I.base.there, fun b xs e => ?_, fun b o u e => ?_, fun b ps e => ?_⟩, I.loc, I.cell, ?_, fun x c e => ?_, fun p hp => ?_, fun b u e => ?_, I.len⟩
  · by_cases hb : b = a
    · subst hb
      exact (n0 o e n hx).elim
    · rw [upd_ne hb]
      exact I.base.free b o e n hx
  · have q := I.base.tups b xs e
    rw [upd_ne (neN b _ q)]
    exact q
  · have q := I.base.frzs b o u e
    rw [upd_ne (neN b _ q)]
    exact q
  · obtain ⟨m, q⟩ := I.base.tbls b ps e
    exact ⟨m, by rw [upd_ne (neN b _ q)]; exact q⟩
  · show upd H a (EXO cls d a) X.env.locals = none
    rw [upd_ne (Ne.symm nL)]
    exact I.free
  · have hc : c ≠ a := fun z => by
      obtain ⟨v, o, ho, hv⟩ := I.cell x c e
      rw [z, he] at ho
      cases ho
      rw [hd] at hv
      cases hv
    rw [upd_ne hc]
    exact I.freeC x c e
  · have hp' : p ∈ X.pn ++ pins := by
      have z : p ∈ (X.pn ++ pins) ++ [] := hp
      rw [List.append_nil] at z
      exact z
    obtain ⟨e, n, ne, nf, dd⟩ := I.pin p hp'
    exact ⟨e, by rw [upd_ne (np p hp')]; exact n, ne, nf, dd⟩
  · by_cases hb : b = a
    · subst hb
      rw [upd_same] at e
      cases e
      exact exo2_ok he hz hd
    · rw [upd_ne hb] at e
      exact (I.hok b u e).stay (fun c v _ q => q) (fun c q => by rw [upd_ne (neN c _ q)]; exact q) fun c xs q => by rw [upd_ne (neN c _ q)]; exact q
theorem Inv.uncaught {a : Addr} {pn' : List (Addr × Obj)} (I : Inv (X.suite a (X.pn ++ pins)) pn' σ H s) (ok : X.Ok) : Inv X pins σ H s :=
  ⟨ok, I.os, I.bare, I.base, I.loc, I.cell, I.free, I.freeC, fun p hp => I.pin p (List.mem_append_left _ hp), I.hok, I.len⟩
end
/-- what 'except x as n' wishes of an exception of the body: slot i is n's; the exception stays -/
def wOwn (K : PySem.W.Frag) (c : Value) (i : Nat) (ts : TS) (Wout : WX) (D : Ends) : WX := fun cls d σ H =>
  ∃ b, PySem.W.exmOne K cls c = some b ∧ (b = true → ∀ a, H a = none → ts { nx := fun σ' H' => D.nx (σ'.set i none) H', rt := D.rt, bk := fun σ' H' => D.bk (σ'.set i none) H', ct := fun σ' H' => D.ct (σ'.set i none) H' } (σ.set i (some (.ref a))) (upd H a (EXO cls d a))) ∧
    (b = false → Wout cls d σ H)
section
variable {X : Cx} {x n : Str} {c : Value} {i : Nat} {body suite : List Stmt} {b₀ : Stmt} {np pos pos' : Pos} {tb : WX → TS} {ts : TS} {Wout : WX}
theorem ps_try_own (hs : X.stack = X.env :: X.outer) (hf : X.env.frame = some X.env.locals) (hN : X.N.Nodup) (hi : X.N[i]? = some n) (hln : X.env.kindOf n = some .local) (hc : Names X x c) (tk : Takes X Wout)
    (hb : ∀ (W : WX) (pn : List (Addr × Obj)) (xe : Value → Shared → Prop), Takes (X.tr pn xe) W → PassesOwn (model X.prog X.w) X.A X.env xe → PSs (X.tr pn xe) body (tb W))
    (hsu : ∀ (a : Addr) (pn : List (Addr × Obj)), PSs (X.suite a pn) (b₀ :: suite) ts) :
    PS X (.Try body [.ExceptHandler (some (.Name x np)) (some n) (b₀ :: suite) pos'] [] [] pos) (fun D σ H => tb (wOwn X.K c i ts Wout D) D σ H) := by
  refine ⟨fun pins s σ H D I h => ?_⟩
  have ok := I.ok
  have hfr : X.A.frames = some (X.env :: X.outer) := by rw [ok.frames, hs]
  have hloc : Loc X.env.scope n := .inl hln
  refine wpAny_Try_except ?_
  refine wpAny_mono ((hb (wOwn X.K c i ts Wout D) (X.pn ++ pins) (fun e s₁ => wpAny (model X.prog X.w) X.A (noteFrame e X.env) (fun _ s₂ => wpAny (model X.prog X.w) X.A (setFlight e none) (fun _ s₃ =>
    wpAny (model X.prog X.w) X.A (handleBy e X.env [.ExceptHandler (some (.Name x np)) (some n) (b₀ :: suite) pos']) (SP X pins D) X.xe s₃) X.xe s₂) X.xe s₁) (fun u t1 xx => ?_) PassesOwn.looking).run [] s σ H D (I.toTry _) h) (fun f s1 hsp => ?_) (fun e s1 he => he)
  · obtain ⟨a, B, t0, pins', τ1, H1, cls, d, rfl, I1, nb, lift, fly, na, osq, bare, b, mb, yes, nay⟩ := xx
    have J : Inv X pins τ1 H1 t0 := I1.ofTry ok
    have sky' : Sky B (X.env :: X.outer) a (Zc cls d) X.env.locals t1.heap := by rw [← hs]; exact fly
    show wpAny (model X.prog X.w) X.A (noteFrame (.ref a) X.env) _ _ _
    refine Sky.land Zc.steady hfr hf sky' fun ha fa ua => ?_
    have Ia : Inv X pins τ1 H1 { t1 with heap := ha } := J.landed nb fa.1 (lift.trans ua) osq bare
    obtain ⟨oa, va, ea, za, da⟩ := fa.there
    have noF : ∀ {h : Heap} {o : Obj} {vs : Array Value}, h.FunFrames B (X.env :: X.outer) → h.get? a = some o → o.data = .fields vs → a ∉ frs (X.env :: X.outer) := fun {h o vs} ff e dd hm => by
      obtain ⟨_, o', e', hnf⟩ := ff.mem hm
      rw [e] at e'; cases e'
      exact hnf _ dd
    have nf1 := noF fa.2.2.1 ea da
    have nL : a ≠ X.env.locals := fun z => nf1 (List.mem_filterMap.mpr ⟨X.env, List.mem_cons_self, by rw [hf, z]⟩)
    have nF : a ∉ X.fs := fun hm => by
      obtain ⟨e, he, q⟩ := List.mem_filterMap.mp hm
      exact nf1 (List.mem_filterMap.mpr ⟨e, List.mem_cons_of_mem _ he, q⟩)
    have nB : B.get? a = none := fa.2.1
    have nfs : a ∉ frs X.stack := by rw [hs]; exact nf1
    have nI : ∀ o, t0.heap.get? a = some o → False := fun o e => by
      have z := nb a o e nfs
      rw [nB] at z
      cases z
    have n0 : ∀ o, X.s_0.heap.get? a = some o → X.H_0 a = none → a ∉ X.ex → False := fun o e _ hx => by
      obtain ⟨o', q⟩ := J.base.there a o e hx
      exact nI o' q
    have npn : ∀ p ∈ X.pn ++ pins, p.1 ≠ a := fun p hp z => by
      obtain ⟨e, _⟩ := J.pin p hp
      rw [z] at e
      exact nI _ e
    have Sa := Ia.suite ea da na nL nF
    refine wpAny_handleBy_cons (codeAny_handlers_test ?_) (by intro q; cases q)
    have ty : PySem.W.Looks (model X.prog X.w) ha (typeOf (.ref a)) cls := fun A Q E s k q => wpAny_typeOf_ref (k _ _ ea) (by rw [za.1]; exact q)
    have mt := PySem.W.exm_one (M := model X.prog X.w) (Ia.kIn) ty mb
    have tst1 : ∀ {Q : Value → Shared → Prop} {E : Value → Shared → Prop}, Q c { t1 with heap := ha } → wpAny (model X.prog X.w) (X.A.mark (some (.ref a))) (eval (.Name x np) X.env) Q E { t1 with heap := ha } := fun {Q E} q => by
      obtain ⟨hg, hdbg, hm | ⟨hm, hv, hnn⟩⟩ := hc
      · exact ld_glob (X := X.suite a ((a, oa) :: (X.pn ++ pins))) Sa hg hm q hdbg
      · exact ld_blt (X := X.suite a ((a, oa) :: (X.pn ++ pins))) Sa hg hm hv q hnn hdbg
    refine tst1 (mt.here ?_)
    cases b with
    | true =>
      refine codeAny_handlers_suite_as ?_
      refine HandSPX.lands_againZ fa fun hb fb ub => ?_
      have Ib : Inv X pins τ1 H1 { t1 with heap := hb } := J.landed nb fb.1 ((lift.trans ua).trans ub) osq bare
      obtain ⟨ob, vb, eb, zb, db⟩ := fb.there
      have Sb : Inv (X.suite a (X.pn ++ pins)) [] τ1 (upd H1 a (EXO cls d a)) { t1 with heap := hb } := Inv.caught Ib eb zb db na nL n0 npn
      refine store_ok (X := X.suite a (X.pn ++ pins)) (v := .ref a) Sb hN hi hloc rfl (fun sc Sc => ?_) (.inr hln)
      refine wpAny_mono ((hsu a (X.pn ++ pins)).run [] sc _ (upd H1 a (EXO cls d a)) _ Sc (yes rfl a na)) (fun f sd hsp => ?_) (fun _ _ z => False.elim z)
      have fin1 : ∀ {σd : L2.St} {Hd : Hp} {Q : Shared → Prop}, Inv (X.suite a (X.pn ++ pins)) [] σd Hd sd → (∀ se, Inv X pins (σd.set i none) Hd se → Q se) →
          wpAny (model X.prog X.w) X.A (do bindName X.env n .none; unbindBehindTheSuite X.env n pos') (fun _ se => Q se) X.xe sd := fun {σd Hd Q} Sd hq => gone_ok (Inv.uncaught Sd ok) hN hi hln hq
      cases f with
      | next =>
        obtain ⟨σd, Hd, Sd, qd⟩ := hsp
        exact fin1 Sd fun se Ie => ⟨_, _, Ie, qd⟩
      | brk =>
        obtain ⟨σd, Hd, Sd, qd⟩ := hsp
        exact fin1 Sd fun se Ie => ⟨_, _, Ie, qd⟩
      | cont =>
        obtain ⟨σd, Hd, Sd, qd⟩ := hsp
        exact fin1 Sd fun se Ie => ⟨_, _, Ie, qd⟩
      | ret u =>
        obtain ⟨vd, σd, Hd, Sd, rd, qd⟩ := hsp
        exact fin1 Sd fun se Ie => ⟨_, _, _, Ie, rd, qd⟩
    | false =>
      show wpAny _ X.A (handleBy (.ref a) X.env []) _ _ _
      refine wpAny_handleBy_nil ?_
      obtain ⟨k1, k2, k3, oe, vs, T, oT, ts', he, hz, hd, h1, hr⟩ := id fa
      unfold PySem.passOn
      refine wpAny_bind (wpAny_field he hd h1 ?_)
      rw [if_neg (show ¬ ((Value.ref T == Value.none) = true) from by simp)]
      have fin2 : wpAny (model X.prog X.w) X.A (setFlight (.ref a) X.env.frame) (fun _ s4 => wpAny (model X.prog X.w) X.A (throw (.ref a) : Sem Flow) (SP X pins D) X.xe s4) X.xe { t1 with heap := ha } := by
        rw [hf]
        refine HandSPX.setFlight_upZ fa fun hb hh4 ub => wpAny_throw (tk _ _ ?_)
        exact ⟨a, B, t0, pins, τ1, H1, cls, d, rfl, J, nb, (lift.trans ua).trans ub, .inr (.inr (by rw [hs]; exact hh4)), na, osq, bare, nay rfl⟩
      first
        | exact wpAny_bind (wpAny_pure (wpAny_bind fin2))
        | exact wpAny_bind fin2
  · cases f with
    | next =>
      obtain ⟨τ1, H1, I1, q⟩ := hsp
      exact wpAny_execs_nil ⟨τ1, H1, I1.ofTry ok, q⟩
    | brk =>
      obtain ⟨τ1, H1, I1, q⟩ := hsp
      exact ⟨τ1, H1, I1.ofTry ok, q⟩
    | cont =>
      obtain ⟨τ1, H1, I1, q⟩ := hsp
      exact ⟨τ1, H1, I1.ofTry ok, q⟩
    | ret u =>
      obtain ⟨v, τ1, H1, I1, r, q⟩ := hsp
      exact ⟨v, τ1, H1, I1.ofTry ok, r, q⟩
end
end Mi

set_option Elab.async false
set_option linter.all false
set_option maxRecDepth 100000
/-! He2: isinstance of a caught exception, its attributes. -/
namespace PySem.W
open PySem PySem.Spec PySem.Calls PyProof.Rows
section
variable {prog : Program} {w : World} {A : Around} {E : Value → Shared → Prop} {s : Shared} {K : Frag} {x D : Addr} {oi : Obj} {od : Option Obj}
theorem mi_findClass (hdct : hasDictIn K D = true) {at1 gt1 : Value} {nm : Str} (h1 : findIn K (.ref D) nm = some (some at1)) (h2 : specialIn K at1 "__get__" = some (some gt1)) (h3 : takesIn K at1 = some true) : findObj K D od nm = some (.bind gt1 at1) := by
  obtain ⟨cd, hc, _⟩ := any_some hdct
  unfold findObj
  simp only [hc, h1, h2, h3, Option.bind_some]
theorem mi_class {Q : Option Value → Shared → Prop} (C : L2.ExcC K D) (KI : K.In s.heap) (I : InstAt s.heap x oi D od) (q : Q (some (.ref D)) { s with toks := s.toks + 1 }) : wpAny (model prog w) A (getAttr? (.ref x) "__class__") Q E s := by
  obtain ⟨hp, gn, dw, tk, oz⟩ := s
  have fo : findObj K D od "__class__" = some (.bind (.builtin "getset_descriptor.__get__") (.builtin "object.__class__")) := mi_findClass C.hd C.ha C.hn C.ht
  have ty := I.type (M := model prog w)
  have lg := looks_findIn (M := model prog w) KI C.hg
  have lk := looks_findIn (M := model prog w) KI C.hk
  have lf := looks_find (M := model prog w) KI I fo
  have sb : Looks (model prog w) hp (isInstance (.ref x) (.type "BaseException")) true := ty.andThen (looks_subIn KI C.hs)
  have z2 : (Value.builtin "BaseException.__getattribute__" == Value.builtin "object.__getattribute__") = false := by decide +kernel
  unfold getAttr? getAttrBy? getAttrBy
  refine wpAny_bind (wpAny_mkText (wpAny_bind (wpAny_attempt (wpAny_holding (wpAny_bind (ty.at (wpAny_bind (lg.at ?_))))))))
  show wpAny _ _ (if (onTheHeap (Value.ref D) && Value.builtin "BaseException.__getattribute__" == Value.builtin "object.__getattribute__") = true then _ else _) _ _ _
  rw [z2, Bool.and_false, if_neg Bool.false_ne_true]
  unfold getAttrByItsOwn hookBefore
  refine wpAny_bind ?_
  rw [if_pos (show onTheHeap (Value.ref D) = true from rfl)]
  refine lk.at (wpAny_bind (wpAny_attempt (wpAny_holding ?_)))
  unfold callGetattribute
  rw [show (false && onTheHeap (Value.builtin "BaseException.__getattribute__")) = false from rfl, if_neg Bool.false_ne_true]
  unfold boundAndCalled
  rw [PySem.F.excAttr_ValueError.ga.bind (.ref x)]
  refine wpAny_bind (wpAny_pure ?_)
  show wpAny _ _ (call (.builtin "BaseException.__getattribute__") [.ref x, .str "__class__" tk]) _ _ _
  refine wpAny_call (codeAny_call_builtin PySem.F.excAttr_ValueError.ga.plain PySem.F.entry_bexc_ga ?_)
  refine @check_slot (model prog w) _ _ ⟨hp, gn, dw, tk + 1, oz⟩ "BaseException.__getattribute__" "BaseException" "__getattribute__" (.ref x) [.str "__class__" tk] [] _ (by decide +kernel) (by decide +kernel) sb (PySem.F.args_bexc_ga (.ref x) (.str "__class__" tk)) ?_
  unfold Builtin.«object.__getattribute__»
  refine wpAny_bind (wpAny_of_eq (a := ((Value.ref x : Value), [Value.str "__class__" tk])) (by first | rfl | (simp only [slotArgs]; rfl)) ?_)
  refine wpAny_bind (wpAny_pure (wpAny_bind (ty.at (wpAny_bind (lf.at ?_)))))
  show wpAny _ _ (holding [Value.builtin "object.__class__"] (call (.builtin "getset_descriptor.__get__") [.builtin "object.__class__", .ref x, .ref D]) >>= ret) _ _ _
  refine wpAny_bind (wpAny_holding (wpAny_call (class_get (s := ⟨hp, gn, dw, tk + 1, oz⟩) (ox := oi) (od := od) KI I C.hm (wpAny_pure ?_))))
  show wpAny _ _ (handedOut (.ref D)) _ _ _
  rw [handedOut_of (v := .ref D) rfl]
  first
    | exact wpAny_pure (wpAny_pure q)
    | exact wpAny_pure q
    | exact wpAny_pure (wpAny_bind (wpAny_pure (wpAny_pure q)))
theorem mi_kitx (C : L2.ExcC K D) : KitX K (.ref x) (.ref D) (fun h => ∃ oi od, InstAt h x oi D od) where
  ty := fun _ _ _ ⟨_, _, I⟩ => I.type
  it := fun M h X _ => by
    obtain ⟨cd, hc, _⟩ := any_some C.hd
    unfold clsIn at hc
    split at hc
    · rename_i z1 z2 z3 z4 e0
      intro A1 Q1 E1 s1 k1 q1
      unfold isType loadHead
      exact wpAny_bind (wpAny_loadPart (k1 _ _ (X _ _ e0)) (wpAny_pure q1))
    · cases hc
  ne := fun h tp dd its n sl X htp => (handS_kitx_exc (x := x) (ox := default) C.hg C.hk C.hs C.hd C.ha C.hn C.ht C.hm).ne h tp dd its n sl X htp
  ca := fun X ⟨_, _, I⟩ k => mi_class C X I k
end
end PySem.W
namespace Mi
open PySem PySem.Spec PyProof.Rows L2
/-- the exception's dict, where it has one -/
def ExD (H : Hp) : Option Addr → Prop
  | none => True
  | some dd => ∃ gs, H dd = some (.xd gs)
theorem exo_inst {X : Cx} {pins : List (Addr × Obj)} {σ : L2.St} {H : Hp} {s : Shared} {a D : Addr} {d : Option Addr} (I : Inv X pins σ H s) (e : H a = some (EXO (.ref D) d a)) (ed : ExD H d) : ∃ oe od, PySem.W.InstAt s.heap a oe D od := by
  have q := I.hok a _ e
  obtain ⟨⟨oe, vs, g, z, hv⟩, _, _⟩ := q
  obtain ⟨oc, oz, oda, osl⟩ := oe
  obtain ⟨z1, z2⟩ := z
  dsimp only at z1 z2 hv
  subst z1 z2 hv
  cases oz with
  | none => exact ⟨_, none, g, rfl, rfl, trivial⟩
  | some dd =>
    obtain ⟨gs, ed⟩ := ed
    have hx : ObjOk X.prog X.w H s.heap dd (.xd gs) := I.hok dd _ ed
    obtain ⟨mA, hns, _⟩ := hx
    obtain ⟨od, ho, _⟩ := lookIn_ns hns
    exact ⟨_, some od, g, rfl, rfl, ho⟩
/-- what a value's class is, exceptions among them -/
inductive TyE (K : PySem.W.Frag) (H : Hp) : V → Value → Prop
  | ty {x : V} {t : Value} (h : TyX K H x t) : TyE K H x t
  | ex {a D : Addr} {d : Option Addr} (ea : H a = some (EXO (.ref D) d a)) (ed : ExD H d) (C : ExcC K D) : TyE K H (.ref a) (.ref D)
theorem tyE_kit {X : Cx} {pins : List (Addr × Obj)} {σ : L2.St} {H : Hp} {s : Shared} {x : V} {u t : Value} (I : Inv X pins σ H s) (r : RelV x u) (T : TyE X.K H x t) : ∃ P : Heap → Prop, PySem.W.KitX X.K u t P ∧ P s.heap ∧ u ≠ .builtin "__main__.__loader__#opaque" := by
  cases T with
  | ty h =>
    obtain ⟨P, Z, p, hx⟩ := kit_of I r h
    exact ⟨P, Z, p, hx⟩
  | @ex a D d ea ed C =>
    cases (show u = Value.ref a from r)
    exact ⟨_, PySem.W.mi_kitx C, exo_inst I ea ed, fun z => nomatch z⟩
/-- isinstance(x, c) -/
def rIsC (K : PySem.W.Frag) : List V → Hp → VK → Prop := fun xs H Q => ∃ (x c : V) (t cv : Value) (b : Bool), xs = [x, c] ∧ ClsV c cv ∧ TyE K H x t ∧ PySem.W.kitOne K t cv = some b ∧ Q (.bl b) H
/-- isinstance(x, (c1, ..)) -/
def rIsCs (K : PySem.W.Frag) : List V → Hp → VK → Prop := fun xs H Q => ∃ (x : V) (q : Addr) (cs : List V) (t : Value) (ws : List Value) (b : Bool), xs = [x, .ref q] ∧ H q = some (.tup cs) ∧ Paired ClsV cs ws ∧ TyE K H x t ∧ PySem.W.kitAny K t ws = some b ∧ Q (.bl b) H
theorem call_isC {X : Cx} : CallR X (.builtin "isinstance") (rIsC X.K) := fun pins s σ H xs us Q I r h => by
  obtain ⟨x, c, t, cv, b, rfl, k, ty, e, q⟩ := h
  obtain ⟨u1, u2, rfl, r1, r2⟩ := vals2 r
  obtain rfl := k.eq r2
  obtain ⟨P, Z, p, hx⟩ := tyE_kit I r1 ty
  exact PySem.W.kia_one Z I.kIn p e hx fun tk => ⟨.bl b, H, I.tok tk, rfl, q⟩
theorem call_isCs {X : Cx} : CallR X (.builtin "isinstance") (rIsCs X.K) := fun pins s σ H xs us Q I r h => by
  obtain ⟨x, q0, cs, t, ws, b, rfl, hT, k, ty, e, q⟩ := h
  obtain ⟨u1, u2, rfl, r1, r2⟩ := vals2 r
  cases (show u2 = Value.ref q0 from r2)
  obtain ⟨P, Z, p, hx⟩ := tyE_kit I r1 ty
  have ot := I.hok q0 _ hT
  obtain ⟨_, its, rv, ⟨oc, od, dt, sl⟩, h1, h2, n, h3⟩ := ot
  obtain rfl := ClsV.all k rv
  simp only at h2 h3
  subst h2 h3
  exact PySem.W.kia_tup Z I.kIn p h1 e hx fun tk => ⟨.bl b, H, I.tok tk, rfl, q⟩
/-- e.f of an instance or of a caught exception -/
def tFldE (K : PySem.W.Frag) (ta : TE) (f : Str) : TE := fun σ H Q => ta σ H fun x H1 => (∃ a C dx fs v, x = .ref a ∧ H1 a = some (.ins C dx fs) ∧ Cls K C ∧ NoAttr K C f ∧ fs.lookup f = some v ∧ Q v H1) ∨
  ∃ (a D dd : Addr) (gs : List (Str × V)) (v : V), x = .ref a ∧ H1 a = some (EXO (.ref D) (some dd) a) ∧ H1 dd = some (.xd gs) ∧ XfC K D ∧ PySem.W.findIn K (.ref D) f = some none ∧ gs.lookup f = some v ∧ Q v H1
theorem pe_fldE {X : Cx} {e : Expr} {f : Str} {pos : Pos} {ta : TE} (he : PE X e ta) (hb : attributeBase e f X.env (eval e X.env) = eval e X.env) : PE X (.Attribute e f pos) (tFldE X.K ta f) := by
  refine ⟨fun pins s σ H Q I h => ?_⟩
  refine attr_of hb (thn (he.run pins s σ H _ I h) fun u s1 ⟨x, H1, I1, rx, h1⟩ => ?_)
  rcases h1 with ⟨a, C, dx, fs, v, ex, ea, c, n, l, q⟩ | ⟨a, D, dd, gs, v, ex, ea, ed, T, no, l, q⟩
  · subst ex
    obtain rfl : u = Value.ref a := rx
    exact getattr_ok I1 ea c n l fun u2 s2 I2 ru => ⟨v, H1, I2, ru, q⟩
  · subst ex
    obtain rfl : u = Value.ref a := rx
    obtain ⟨⟨oe, vs, g, z, hv⟩, _, _⟩ := I1.hok a _ ea
    have hx : ObjOk X.prog X.w H1 s1.heap dd (.xd gs) := I1.hok dd _ ed
    obtain ⟨mA, hns, hr⟩ := hx
    obtain ⟨od, ho, hl⟩ := lookIn_ns hns
    obtain ⟨y, hy, ry⟩ := RelO.some_of (v := v) (o := mA f) (by rw [← l]; exact hr f)
    have J : PySem.W.InstAt s1.heap a oe D (some od) := ⟨g, z.1, by unfold PySem.W.notCls; rw [hv] <;> rfl, by rw [z.2]; exact ho⟩
    exact HandSPX.exc_get I1.kIn J T.ga T.gg T.exC (PySem.W.findObj_own T.hdC no rfl (by rw [hl, hy])) (handed_of ry) ⟨v, H1, I1.tok _, ry, q⟩
end Mi

/-! Mi1: a small interpreter over a store of its own, in plain Lean. No model in sight. -/
set_option linter.all false
namespace Mi
/-! ### values, objects, results -/
inductive PV where
  | non | bl (b : Bool) | int (i : Int) | str (s : List Char) | tup (xs : List PV) | ref (n : Nat)
deriving Inhabited
mutual
def PV.beq : PV → PV → Bool
  | .non, .non => true
  | .bl a, .bl b => a == b
  | .int a, .int b => a == b
  | .str a, .str b => a == b
  | .tup a, .tup b => PV.beqs a b
  | .ref a, .ref b => a == b
  | _, _ => false
def PV.beqs : List PV → List PV → Bool
  | [], [] => true
  | a :: r, b :: t => PV.beq a b && PV.beqs r t
  | _, _ => false
end
mutual
theorem PV.of_beq : ∀ {a b : PV}, PV.beq a b = true → a = b
  | .non, b, h => by cases b <;> simp_all [PV.beq]
  | .bl x, b, h => by cases b <;> simp_all [PV.beq]
  | .int x, b, h => by cases b <;> simp_all [PV.beq]
  | .str x, b, h => by cases b <;> simp_all [PV.beq]
  | .ref x, b, h => by cases b <;> simp_all [PV.beq]
  | .tup x, b, h => by
    cases b with
    | tup y => rw [PV.beq] at h; rw [PV.of_beqs h]
    | _ => simp_all [PV.beq]
theorem PV.of_beqs : ∀ {a b : List PV}, PV.beqs a b = true → a = b
  | [], [], _ => rfl
  | [], _ :: _, h => by simp [PV.beqs] at h
  | _ :: _, [], h => by simp [PV.beqs] at h
  | x :: r, y :: t, h => by
    rw [PV.beqs, Bool.and_eq_true] at h
    rw [PV.of_beq h.1, PV.of_beqs h.2]
end
mutual
theorem PV.beq_rfl : ∀ a : PV, PV.beq a a = true
  | .non => by simp [PV.beq]
  | .bl x => by simp [PV.beq]
  | .int x => by simp [PV.beq]
  | .str x => by simp [PV.beq]
  | .ref x => by simp [PV.beq]
  | .tup x => by rw [PV.beq]; exact PV.beqs_rfl x
theorem PV.beqs_rfl : ∀ a : List PV, PV.beqs a a = true
  | [] => by simp [PV.beqs]
  | x :: r => by rw [PV.beqs, PV.beq_rfl x, PV.beqs_rfl r]; rfl
end
instance : DecidableEq PV := fun a b => if h : PV.beq a b = true then isTrue (PV.of_beq h) else isFalse fun e => h (by rw [e]; exact PV.beq_rfl b)

/-- objects: a list, a list that is only read, a dict, an instance of a class, an exception that was caught -/
inductive PO where
  | lst (xs : List PV)
  | frz (xs : List PV)
  | dic (kvs : List (PV × PV))
  | ins (c : String) (fs : List (String × PV))
  | exn (c : String) (fs : List (String × PV))
  | lam
deriving DecidableEq, Inhabited
abbrev PH := List PO
abbrev Env := List (Option PV)
structure PX where
  cls : String
  fs : List (String × PV)
deriving DecidableEq, Inhabited
inductive R (α : Type) where
  | ok (a : α) (h : PH) | exc (x : PX) (h : PH) | bad
deriving DecidableEq, Inhabited
def R.bind {α β : Type} : R α → (α → PH → R β) → R β
  | .ok a h, f => f a h
  | .exc x h, _ => .exc x h
  | .bad, _ => .bad
@[simp] theorem bind_ok {α β : Type} (a : α) (h : PH) (f : α → PH → R β) : (R.ok a h).bind f = f a h := rfl
@[simp] theorem bind_exc {α β : Type} (x : PX) (h : PH) (f : α → PH → R β) : (R.exc x h : R α).bind f = .exc x h := rfl
@[simp] theorem bind_bad {α β : Type} (f : α → PH → R β) : (R.bad : R α).bind f = .bad := rfl
theorem bind_of {α β : Type} {r : R α} {a : α} {h : PH} (e : r = .ok a h) (f : α → PH → R β) : r.bind f = f a h := by rw [e]; rfl
/-! ### data: what a value is, all through -/
inductive D where
  | non | bl (b : Bool) | int (i : Int) | str (s : List Char) | lst (xs : List D) | tup (xs : List D)
deriving Inhabited
mutual
def D.eqv : D → D → Bool
  | .non, .non => true
  | .bl a, .bl b => a == b
  | .bl a, .int j => (if a then 1 else 0) == j
  | .int i, .bl b => i == (if b then 1 else 0)
  | .int a, .int b => a == b
  | .str a, .str b => a == b
  | .lst a, .lst b => D.eqvs a b
  | .tup a, .tup b => D.eqvs a b
  | _, _ => false
def D.eqvs : List D → List D → Bool
  | [], [] => true
  | a :: r, b :: t => D.eqv a b && D.eqvs r t
  | _, _ => false
end
def mapO {α β : Type} (f : α → Option β) : List α → Option (List β)
  | [] => some []
  | x :: r => match f x with
    | some y => match mapO f r with
      | some ys => some (y :: ys)
      | none => none
    | none => none
/-- all through, by a bound for the depth -/
def den (h : PH) : Nat → PV → Option D
  | 0, v => match v with
    | .non => some .non
    | .bl b => some (.bl b)
    | .int i => some (.int i)
    | .str s => some (.str s)
    | _ => none
  | n + 1, v => match v with
    | .non => some .non
    | .bl b => some (.bl b)
    | .int i => some (.int i)
    | .str s => some (.str s)
    | .tup xs => (mapO (den h n) xs).map .tup
    | .ref a => match h[a]? with
      | some (.lst xs) => (mapO (den h n) xs).map .lst
      | some (.frz xs) => (mapO (den h n) xs).map .lst
      | _ => none
/-! ### what repr shows: numbers, plain texts, tuples, lists, the empty dict -/
def joinC : List (List Char) → List Char
  | [] => []
  | [x] => x
  | x :: y :: r => x ++ ',' :: ' ' :: joinC (y :: r)
/-- shown as it is -/
def plainC (c : Char) : Bool := decide (32 ≤ c.toNat ∧ c.toNat < 127) && decide (c.toNat ≠ 39) && decide (c.toNat ≠ 92)
def shw0 : PV → Option (List Char)
  | .non => some ['N', 'o', 'n', 'e']
  | .bl b => some (if b then ['T', 'r', 'u', 'e'] else ['F', 'a', 'l', 's', 'e'])
  | .int i => if i.natAbs.log2 < 1920 then some (toString i).toList else none
  | .str s => if s.all plainC then some ('\'' :: (s ++ ['\''])) else none
  | _ => none
def tupC (ts : List (List Char)) : List Char := '(' :: (joinC ts ++ (if ts.length = 1 then [',', ')'] else [')']))
def lstC (ts : List (List Char)) : List Char := '[' :: (joinC ts ++ [']'])
def shw (h : PH) : Nat → PV → Option (List Char)
  | 0, v => shw0 v
  | n + 1, v => match v with
    | .tup xs => (mapO (shw h n) xs).map tupC
    | .ref a => match h[a]? with
      | some (.lst xs) => (mapO (shw h n) xs).map lstC
      | some (.frz xs) => (mapO (shw h n) xs).map lstC
      | some (.dic []) => some ['{', '}']
      | _ => none
    | _ => shw0 v
/-! ### the line of sizes -/
def szl : Nat := 16777216
/-! ### operators by values -/
inductive BOp where
  | add | sub | mul | fdiv | mod | pow | band | bor | bxor
deriving DecidableEq
inductive COp where
  | eq | ne | lt | le | gt | ge | isin | notin | is | isnot
deriving DecidableEq
def mulOk (i j : Int) : Bool := decide (i.natAbs.log2 + j.natAbs.log2 < 1000000)
/-- a + b .. on ints, texts, tuples, lists; anything else is not known here -/
def bopV (o : BOp) (x y : PV) (h : PH) : R PV := match x, y with
  | .int i, .int j => match o with
    | .add => .ok (.int (i + j)) h
    | .sub => .ok (.int (i - j)) h
    | .mul => if mulOk i j then .ok (.int (i * j)) h else .bad
    | .fdiv => if 0 < j ∧ j.natAbs.log2 < 9000 then .ok (.int (i / j)) h else .bad
    | .mod => if 0 < j then .ok (.int (i % j)) h else .bad
    | .pow => if 0 ≤ j ∧ (i.natAbs.log2 + 1) * j.toNat ≤ 134217728 then .ok (.int (i ^ j.toNat)) h else .bad
    | _ => .bad
  | .str a, .str b => match o with
    | .add => if a.length + b.length ≤ szl then .ok (.str (a ++ b)) h else .bad
    | _ => .bad
  | .str a, .int k => match o with
    | .mul => if -16777216 ≤ k ∧ k ≤ 16777216 ∧ a.length * k.toNat ≤ szl then .ok (.str (List.replicate k.toNat a).flatten) h else .bad
    | _ => .bad
  | .tup a, .tup b => match o with
    | .add => if a.length + b.length ≤ szl then .ok (.tup (a ++ b)) h else .bad
    | _ => .bad
  | .tup a, .int k => match o with
    | .mul => if a ≠ [] ∧ 2 ≤ k ∧ k ≤ 1000 ∧ a.length ≤ 1000 then .ok (.tup (List.replicate k.toNat a).flatten) h else .bad
    | _ => .bad
  | .ref a, .ref b => match o, h[a]?, h[b]? with
    | .add, some (.lst xs), some (.lst ys) => if xs.length + ys.length ≤ szl then .ok (.ref h.length) (h ++ [.lst (xs ++ ys)]) else .bad
    | _, _, _ => .bad
  | .ref a, .int k => match o, h[a]? with
    | .mul, some (.lst xs) => if -16777216 ≤ k ∧ k ≤ 16777216 ∧ xs.length * k.toNat ≤ szl then .ok (.ref h.length) (h ++ [.lst (List.replicate k.toNat xs).flatten]) else .bad
    | _, _ => .bad
  | _, _ => .bad
/-- truth -/
def tru (v : PV) (h : PH) : Option Bool := match v with
  | .non => some false
  | .bl b => some b
  | .int i => some (i != 0)
  | .str s => if s.length ≤ szl then some (s.length != 0) else none
  | .tup xs => some (!xs.isEmpty)
  | .ref n => match h[n]? with
    | some (.lst xs) => some (!xs.isEmpty)
    | some (.frz xs) => some (!xs.isEmpty)
    | some (.dic kvs) => some (!kvs.isEmpty)
    | _ => none
def truR (v : PV) (h : PH) : R Bool := match tru v h with
  | some b => .ok b h
  | none => .bad
/-- a tuple, a list, a dict and a text: never equal -/
def dicStr (x y : PV) (h : PH) : Bool := match x, y with
  | .ref n, .str _ => match h[n]? with
    | some (.dic _) => true
    | some (.lst _) => true
    | some (.frz _) => true
    | _ => false
  | .tup _, .str _ => true
  | _, _ => false
/-- a tuple or list, and is it empty -/
def emp (v : PV) (h : PH) : Option (Bool × Bool) := match v with
  | .tup xs => some (true, xs.isEmpty)
  | .ref n => match h[n]? with
    | some (.lst xs) => some (false, xs.isEmpty)
    | some (.frz xs) => some (false, xs.isEmpty)
    | _ => none
  | _ => none
/-- two of one kind, one of them empty -/
def empEq (x y : PV) (h : PH) : Option Bool := match emp x h, emp y h with
  | some (a, p), some (b, q) => if a = b ∧ (p = true ∨ q = true) then some (p && q) else none
  | _, _ => none
def eqV (x y : PV) (h : PH) : Option Bool := if dicStr x y h then some false else match empEq x y h with
  | some b => some b
  | none => match den h 60 x, den h 60 y with
    | some a, some b => some (D.eqv a b)
    | _, _ => none
/-- flat things: compared by value -/
def flat : PV → Bool
  | .non | .bl _ | .int _ | .str _ => true
  | _ => false
/-- is x one of ys -/
def anyEq (x : D) : List D → Bool
  | [] => false
  | y :: r => D.eqv y x || anyEq x r
/-- the keys of a dict: python's == of hashable data without bools -/
def lookK (k : PV) : List (PV × PV) → Option PV
  | [] => none
  | (a, v) :: r => if a = k then some v else lookK k r
def putK (k v : PV) (kvs : List (PV × PV)) : List (PV × PV) :=
  if (kvs.any fun kv => decide (kv.1 = k)) = true then kvs.map (fun kv => if kv.1 = k then (kv.1, v) else kv) else kvs ++ [(k, v)]
/-- what may be a key here: an int, a text, a tuple of such -/
def keyOk : PV → Bool
  | .int _ | .str _ => true
  | _ => false
def inV (x y : PV) (h : PH) : Option Bool := match y with
  | .str t => match x with
    | .str [c] => some (decide (c ∈ t))
    | _ => none
  | .tup ys => match den h 50 x, mapO (den h 50) ys with
    | some a, some bs => some (anyEq a bs)
    | _, _ => none
  | .ref n => match h[n]? with
    | some (.lst ys) => match den h 50 x, mapO (den h 50) ys with
      | some a, some bs => some (anyEq a bs)
      | _, _ => none
    | some (.frz ys) => match den h 50 x, mapO (den h 50) ys with
      | some a, some bs => some (anyEq a bs)
      | _, _ => none
    | some (.dic kvs) => if keyOk x then some (lookK x kvs).isSome else none
    | _ => none
  | _ => none
def bR (o : Option Bool) (h : PH) : R PV := match o with
  | some b => .ok (.bl b) h
  | none => .bad
def nbR (o : Option Bool) (h : PH) : R PV := match o with
  | some b => .ok (.bl (!b)) h
  | none => .bad
def cmpV (o : COp) (x y : PV) (h : PH) : R PV := match o with
  | .eq => bR (eqV x y h) h
  | .ne => nbR (eqV x y h) h
  | .isin => bR (inV x y h) h
  | .notin => nbR (inV x y h) h
  | .is => match y with
    | .non => .ok (.bl (decide (x = .non))) h
    | _ => .bad
  | .isnot => match y with
    | .non => .ok (.bl (!decide (x = .non))) h
    | _ => .bad
  | .lt => match x, y with
    | .int i, .int j => .ok (.bl (decide (i < j))) h
    | _, _ => .bad
  | .le => match x, y with
    | .int i, .int j => .ok (.bl (decide (i ≤ j))) h
    | _, _ => .bad
  | .gt => match x, y with
    | .int i, .int j => .ok (.bl (decide (j < i))) h
    | _, _ => .bad
  | .ge => match x, y with
    | .int i, .int j => .ok (.bl (decide (j ≤ i))) h
    | _, _ => .bad
/-! ### places -/
def ixN (n : Nat) (i : Int) : Option Nat := if 0 ≤ i then (if i < n then some i.toNat else none) else (if -(n : Int) ≤ i then some (i + n).toNat else none)
def atI {α : Type} (xs : List α) (i : Int) : Option α := (ixN xs.length i).bind fun j => xs[j]?
/-- a slice's end -/
def sIx (n d : Nat) : Option Int → Nat
  | none => d
  | some i => if i < 0 then (i + n).toNat else min i.toNat n
def cutL {α : Type} (xs : List α) (lo hi : Option Int) : List α := (xs.drop (sIx xs.length 0 lo)).take (sIx xs.length xs.length hi - sIx xs.length 0 lo)
def oneR {α : Type} (o : Option α) (h : PH) : R α := match o with
  | some v => .ok v h
  | none => .bad
def idxV (x y : PV) (h : PH) : R PV := match x with
  | .tup xs => match y with
    | .int i => oneR (atI xs i) h
    | _ => .bad
  | .str s => match y with
    | .int i => if s.length ≤ szl then oneR ((atI s i).map fun c => .str [c]) h else .bad
    | _ => .bad
  | .ref n => match h[n]? with
    | some (.lst xs) => match y with
      | .int i => oneR (atI xs i) h
      | _ => .bad
    | some (.frz xs) => match y with
      | .int i => oneR (atI xs i) h
      | _ => .bad
    | some (.dic kvs) => if keyOk y then oneR (lookK y kvs) h else .bad
    | _ => .bad
  | _ => .bad
def slcV (x : PV) (lo hi : Option Int) (h : PH) : R PV := match x with
  | .tup xs => .ok (.tup (cutL xs lo hi)) h
  | .str s => if s.length ≤ szl then .ok (.str (cutL s lo hi)) h else .bad
  | .ref n => match h[n]? with
    | some (.lst xs) => .ok (.ref h.length) (h ++ [.lst (cutL xs lo hi)])
    | some (.frz xs) => .ok (.ref h.length) (h ++ [.lst (cutL xs lo hi)])
    | _ => .bad
  | _ => .bad
end Mi

/-! Mi2: the small interpreter: expressions, statements, calls. -/
set_option linter.all false
namespace Mi
/-! ### syntax -/
inductive T where
  | nm (i : Nat) | tup (ts : List T)
inductive IK where
  | val | rng | rng2 | enum | enums | zip | items | values
deriving DecidableEq
inductive E where
  | v (i : Nat)
  | k (c : PV)
  | bop (o : BOp) (a b : E)
  | neg (a : E) | nt (a : E)
  | and (a b : E) | or (a b : E)
  | cmp (o : COp) (a b : E)
  | chain (o o' : COp) (a b c : E)
  | ite (c a b : E)
  | call (f : String) (as : List E)
  | new (c : String) (as : List E)
  | blt (f : String) (as : List E)
  | isi (a : E) (ts : List String)
  | mth (m : String) (o : E) (as : List E)
  | mto (m : String) (cs : List String) (o : E) (as : List E)
  | fld (o : E) (f : String)
  | prop (f : String) (cs : List String) (o : E)
  | idx (a b : E) | slc (a : E) (lo hi : Option E)
  | tup (es : List E) | lst (es : List E) | dct (ks vs : List E)
  | lc (elt : E) (t : T) (ik : IK) (its : List E) (cs : List E) (own : List Nat)
  | dsp (es : List E)
  | dc (ke ve : E) (t : T) (ik : IK) (its : List E) (cs : List E) (own : List Nat)
  | tups (es : List E) (e : E)
  | callk (f : String) (ix : List Nat) (as : List E)
  | gin (neg : Bool) (kvs : List (PV × PV)) (a : E)
  | gget (kvs : List (PV × PV)) (a : E)
  | rev (a : E)
  | mkx (c : String) (as : List E)
  | mkxi (c f : String) (e : E)
  | lam (f : String) (b : E)
  | wk (e : E)
  | ln (ks : List String) (e : E)
  | inn (neg : Bool) (ks : List String) (a b : E)
  | oeq (neg : Bool) (ks : List String) (a b : E)
  | lc2 (elt : E) (t : T) (ik : IK) (its : List E) (cs : List E) (own : List Nat) (t2 : T) (ik2 : IK) (its2 : List E) (cs2 : List E) (own2 : List Nat)
inductive S where
  | asg (t : T) (e : E)
  | par (is : List Nat) (es : List E)
  | seti (o i e : E) | setf (o : E) (f : String) (e : E)
  | aug (i : Nat) (neg : Bool) (e : E) | augf (o : E) (f : String) (neg : Bool) (e : E)
  | ex (e : E) | ret (e : E)
  | ite (c : E) (a b : List S)
  | for_ (t : T) (ik : IK) (its : List E) (body : List S)
  | while_ (c : E) (body : List S)
  | pass | brk | cnt
  | raise (c : String) (as : List E)
  | raiseI (c f : String) (e : E)
  | try_ (body : List S) (ks : List String) (suite : List S)
  | tryA (body : List S) (ks : List String) (i : Nat) (suite : List S)
inductive Fl where
  | nx (ρ : Env) | rt (v : PV) | bk (ρ : Env) | ct (ρ : Env) | xc (x : PX) (ρ : Env)
/-- the text's own defs: functions; methods by their class -/
inductive FN where
  | f (x : String) | m (c x : String)
  | l (x : String) (k : PH → R PV) | w
/-- a call of the text's own def, by its name -/
abbrev Cl := FN → List PV → PH → R PV
/-! ### targets -/
mutual
def bindT (h : PH) : T → PV → Env → Option Env
  | .nm i, v, ρ => some (ρ.set i (some v))
  | .tup ts, v, ρ => match v with
    | .tup xs => bindTs h ts xs ρ
    | .ref n => match h[n]? with
      | some (.lst xs) => bindTs h ts xs ρ
      | _ => none
    | _ => none
def bindTs (h : PH) : List T → List PV → Env → Option Env
  | [], [], ρ => some ρ
  | t :: ts, x :: xs, ρ => match bindT h t x ρ with
    | some ρ' => bindTs h ts xs ρ'
    | none => none
  | _, _, _ => none
end
/-! ### what is walked: the items, and what must stay as it is meanwhile -/
abbrev Gd := List (Nat × PO)
def okG (g : Gd) (h : PH) : Bool := g.all fun p => decide (h[p.1]? = some p.2)
structure Its where
  xs : List PV
  g : Gd
def ofVal (v : PV) (h : PH) : Option Its := match v with
  | .tup xs => some ⟨xs, []⟩
  | .str s => if s.length ≤ szl then some ⟨s.map fun c => .str [c], []⟩ else none
  | .ref n => match h[n]? with
    | some (.lst xs) => some ⟨xs, [(n, .lst xs)]⟩
    | some (.frz xs) => some ⟨xs, [(n, .frz xs)]⟩
    | _ => none
  | _ => none
def ofLst (v : PV) (h : PH) : Option Its := match v with
  | .ref n => match h[n]? with
    | some (.lst xs) => some ⟨xs, [(n, .lst xs)]⟩
    | some (.frz xs) => some ⟨xs, [(n, .frz xs)]⟩
    | _ => none
  | _ => none
def small62 (i : Int) : Bool := decide (-(2 ^ 62) ≤ i ∧ i < 2 ^ 62)
def rngL (lo : Int) (n : Nat) : List PV := (List.range n).map fun i => .int (lo + (i : Nat))
def enumL (lo : Nat) : List PV → List PV
  | [] => []
  | x :: r => .tup [.int lo, x] :: enumL (lo + 1) r
def zipL : List PV → List PV → List PV
  | x :: r, y :: t => .tup [x, y] :: zipL r t
  | _, _ => []
def itsOf (k : IK) (vs : List PV) (h : PH) : Option Its := match k with
  | .val => match vs with
    | [v] => ofVal v h
    | _ => none
  | .rng => match vs with
    | [.int n] => if small62 n then some ⟨rngL 0 n.toNat, []⟩ else none
    | _ => none
  | .rng2 => match vs with
    | [.int a, .int b] => if small62 a && small62 b then some ⟨rngL a (b - a).toNat, []⟩ else none
    | _ => none
  | .enum => match vs with
    | [v] => (ofLst v h).map fun i => ⟨enumL 0 i.xs, i.g⟩
    | _ => none
  | .enums => match vs with
    | [.str s] => if s.length ≤ szl then some ⟨enumL 0 (s.map fun c => .str [c]), []⟩ else none
    | _ => none
  | .zip => match vs with
    | [v, w] => match ofLst v h, ofLst w h with
      | some i, some j => some ⟨zipL i.xs j.xs, i.g ++ j.g⟩
      | _, _ => none
    | _ => none
  | .items => match vs with
    | [.ref n] => match h[n]? with
      | some (.dic kvs) => some ⟨kvs.map fun p => .tup [p.1, p.2], [(n, .dic kvs)]⟩
      | _ => none
    | _ => none
  | .values => match vs with
    | [.ref n] => match h[n]? with
      | some (.dic kvs) => some ⟨kvs.map fun p => p.2, [(n, .dic kvs)]⟩
      | _ => none
    | _ => none
/-! ### built-ins by values -/
def lenOf (v : PV) (h : PH) : Option Nat := match v with
  | .str s => if s.length ≤ szl then some s.length else none
  | .tup xs => some xs.length
  | .ref n => match h[n]? with
    | some (.lst xs) => some xs.length
    | some (.frz xs) => some xs.length
    | some (.dic kvs) => some kvs.length
    | _ => none
  | _ => none
def intsOf : List PV → Option (List Int)
  | [] => some []
  | .int i :: r => (intsOf r).map fun l => i :: l
  | _ => none
def maxL : Int → List Int → Int
  | m, [] => m
  | m, x :: r => maxL (if x > m then x else m) r
def minL : Int → List Int → Int
  | m, [] => m
  | m, x :: r => minL (if x < m then x else m) r
def insI (x : Int) : List Int → List Int
  | [] => [x]
  | y :: r => if x ≤ y then x :: y :: r else y :: insI x r
def sortI : List Int → List Int
  | [] => []
  | x :: r => insI x (sortI r)
def sumL : List Int → Int
  | [] => 0
  | x :: r => x + sumL r
/-- the items of a list or tuple -/
def seqOf (v : PV) (h : PH) : Option (List PV) := match v with
  | .tup xs => some xs
  | .ref n => match h[n]? with
    | some (.lst xs) => some xs
    | some (.frz xs) => some xs
    | _ => none
  | _ => none
/-- .. or the signs of a text -/
def lisOf (v : PV) (h : PH) : Option (List PV) := match v with
  | .str s => if s.length ≤ szl then some (s.map fun c => .str [c]) else none
  | _ => seqOf v h
/-- the items of a list -/
def lstOf (v : PV) (h : PH) : Option (List PV) := match v with
  | .ref n => match h[n]? with
    | some (.lst xs) => some xs
    | some (.frz xs) => some xs
    | _ => none
  | _ => none
def blsOf : List PV → Option (List Bool)
  | [] => some []
  | .bl i :: r => (blsOf r).map fun l => i :: l
  | _ => none
/-- ascending, each once -/
def insU (x : Int) : List Int → List Int
  | [] => [x]
  | y :: r => if x < y then x :: y :: r else if x = y then y :: r else y :: insU x r
def sortU : List Int → List Int
  | [] => []
  | x :: r => insU x (sortU r)
/-- signs, ascending, each once -/
def insC (x : Char) : List Char → List Char
  | [] => [x]
  | y :: r => if x.toNat < y.toNat then x :: y :: r else if x.toNat = y.toNat then y :: r else y :: insC x r
def sortC : List Char → List Char
  | [] => []
  | x :: r => insC x (sortC r)
/-- the name of a value's type -/
def tyN (v : PV) (h : PH) : Option String := match v with
  | .non => some "NoneType"
  | .bl _ => some "bool"
  | .int _ => some "int"
  | .str _ => some "str"
  | .tup _ => some "tuple"
  | .ref n => match h[n]? with
    | some (.lst _) => some "list"
    | some (.frz _) => some "list"
    | some (.dic _) => some "dict"
    | some (.ins c _) => some c
    | some (.exn c _) => some c
    | some .lam => none
    | none => none
def digit (n : Nat) : Char := Char.ofNat (48 + n)
def digitsN : Nat → Nat → List Char → List Char
  | 0, _, acc => acc
  | f + 1, n, acc => if n < 10 then digit n :: acc else digitsN f (n / 10) (digit (n % 10) :: acc)
/-- str of an int -/
def strI (i : Int) : List Char := if i < 0 then '-' :: digitsN 700 i.natAbs [] else digitsN 700 i.natAbs []
def bltV (f : String) (vs : List PV) (h : PH) : R PV := match f with
  | "len" => match vs with
    | [v] => oneR ((lenOf v h).map fun (k : Nat) => PV.int (k : Int)) h
    | _ => .bad
  | "int" => match vs with
    | [.int i] => .ok (.int i) h
    | [.bl b] => .ok (.int (if b then 1 else 0)) h
    | _ => .bad
  | "max" => match vs with
    | [.int i, .int j] => .ok (.int (if j > i then j else i)) h
    | _ => .bad
  | "min" => match vs with
    | [.int i, .int j] => .ok (.int (if j < i then j else i)) h
    | _ => .bad
  | "tuple" => match vs with
    | [v] => oneR ((seqOf v h).map fun xs => .tup xs) h
    | _ => .bad
  | "list" => match vs with
    | [v] => match lisOf v h with
      | some xs => .ok (.ref h.length) (h ++ [.lst xs])
      | none => .bad
    | _ => .bad
  | "sum" => match vs with
    | [v] => match (lstOf v h).bind intsOf with
      | some ns => .ok (.int (sumL ns)) h
      | none => .bad
    | _ => .bad
  | "maxof" => match vs with
    | [v] => match (lstOf v h).bind intsOf with
      | some (n :: ns) => .ok (.int (maxL n ns)) h
      | _ => .bad
    | _ => .bad
  | "minof" => match vs with
    | [v] => match (lstOf v h).bind intsOf with
      | some (n :: ns) => .ok (.int (minL n ns)) h
      | _ => .bad
    | _ => .bad
  | "all" => match vs with
    | [v] => match (lstOf v h).bind blsOf with
      | some bs => .ok (.bl (bs.all id)) h
      | _ => .bad
    | _ => .bad
  | "any" => match vs with
    | [v] => match (lstOf v h).bind blsOf with
      | some bs => .ok (.bl (bs.any id)) h
      | _ => .bad
    | _ => .bad
  | "sorted" => match vs with
    | [v] => match (lstOf v h).bind intsOf with
      | some ns => .ok (.ref h.length) (h ++ [.lst ((sortI ns).map .int)])
      | none => .bad
    | _ => .bad
  | "len set" => match vs with
    | [v] => match (seqOf v h).bind intsOf with
      | some ns => if ns.length < 63 then .ok (.int ((sortU ns).length : Nat)) h else .bad
      | none => .bad
    | _ => .bad
  | "list values" => match vs with
    | [.ref n] => match h[n]? with
      | some (.dic kvs) => .ok (.ref h.length) (h ++ [.lst (kvs.map fun p => p.2)])
      | _ => .bad
    | _ => .bad
  | "repr" => match vs with
    | [v] => match shw h 60 v with
      | some t => if t.length ≤ szl then .ok (.str t) h else .bad
      | none => .bad
    | _ => .bad
  | "sorted set" => match vs with
    | [.str s] => if s.length < 63 then .ok (.ref h.length) (h ++ [.lst ((sortC s).map fun c => .str [c])]) else .bad
    | [v] => match (lstOf v h).bind intsOf with
      | some ns => if ns.length < 63 then .ok (.ref h.length) (h ++ [.lst ((sortU ns).map .int)]) else .bad
      | none => .bad
    | _ => .bad
  | _ => .bad
/-- what such a method is asked of -/
def isL (x : PV) (h : PH) : Bool := match x with
  | .ref n => match h[n]? with
    | some (.lst _) => true
    | _ => false
  | _ => false
def isD (x : PV) (h : PH) : Bool := match x with
  | .ref n => match h[n]? with
    | some (.dic _) => true
    | _ => false
  | _ => false
def isS (x : PV) : Bool := match x with
  | .str _ => true
  | _ => false
def mok (m : String) (x : PV) (h : PH) : Bool := match m with
  | "append" => isL x h
  | "extend" => isL x h
  | "pop" => isL x h
  | "get" => isD x h
  | "join" => isS x
  | "endswith" => isS x
  | "sindex" => isS x
  | _ => false
/-- methods of built-in things, by values -/
def appV (x : PV) (vs : List PV) (h : PH) : R PV := match x, vs with
  | .ref n, [y] => match h[n]? with
    | some (.lst xs) => if xs.length < szl then .ok .non (h.set n (.lst (xs ++ [y]))) else .bad
    | _ => .bad
  | _, _ => .bad
def extV (x : PV) (vs : List PV) (h : PH) : R PV := match x, vs with
  | .ref n, [.ref k] => match h[n]?, h[k]? with
    | some (.lst xs), some (.lst ys) => if xs.length + ys.length ≤ szl then .ok .non (h.set n (.lst (xs ++ ys))) else .bad
    | _, _ => .bad
  | _, _ => .bad
def popV (x : PV) (vs : List PV) (h : PH) : R PV := match x, vs with
  | .ref n, [] => match h[n]? with
    | some (.lst xs) => match xs[xs.length - 1]? with
      | some y => .ok y (h.set n (.lst xs.dropLast))
      | none => .bad
    | _ => .bad
  | .ref n, [.int i] => match h[n]? with
    | some (.lst xs) => if i = 0 then (match xs with
      | y :: r => .ok y (h.set n (.lst r))
      | [] => .bad) else .bad
    | _ => .bad
  | _, _ => .bad
def getV (x : PV) (vs : List PV) (h : PH) : R PV := match x, vs with
  | .ref n, [k] => match h[n]? with
    | some (.dic kvs) => if keyOk k then .ok ((lookK k kvs).getD .non) h else .bad
    | _ => .bad
  | .ref n, [k, d] => match h[n]? with
    | some (.dic kvs) => if keyOk k then .ok ((lookK k kvs).getD d) h else .bad
    | _ => .bad
  | _, _ => .bad
def strsOf : List PV → Option (List (List Char))
  | [] => some []
  | .str s :: r => (strsOf r).map fun l => s :: l
  | _ => none
def joinS (s : List Char) : List (List Char) → List Char
  | [] => []
  | [x] => x
  | x :: y :: r => x ++ s ++ joinS s (y :: r)
def lenS : List (List Char) → Nat
  | [] => 0
  | x :: r => x.length + lenS r
def joinV (x : PV) (vs : List PV) (h : PH) : R PV := match x, vs with
  | .str s, [v] => match (seqOf v h).bind strsOf with
    | some ts => if lenS ts + ts.length * s.length ≤ szl then .ok (.str (joinS s ts)) h else .bad
    | none => .bad
  | _, _ => .bad
def endsV (x : PV) (vs : List PV) (h : PH) : R PV := match x, vs with
  | .str s, [.str t] => .ok (.bl (t.isSuffixOf s)) h
  | _, _ => .bad
def idxC (c : Char) : List Char → Option Nat
  | [] => none
  | d :: r => if d = c then some 0 else (idxC c r).map (· + 1)
def sidxV (x : PV) (vs : List PV) (h : PH) : R PV := match x, vs with
  | .str s, [.str [c]] => match idxC c s with
    | some i => .ok (.int (i : Nat)) h
    | none => .bad
  | _, _ => .bad
def mthV (m : String) (x : PV) (vs : List PV) (h : PH) : R PV := match m with
  | "append" => appV x vs h
  | "extend" => extV x vs h
  | "pop" => popV x vs h
  | "get" => getV x vs h
  | "join" => joinV x vs h
  | "endswith" => endsV x vs h
  | "sindex" => sidxV x vs h
  | _ => .bad
def setiV (o i v : PV) (h : PH) : R Unit := match o with
  | .ref n => match h[n]? with
    | some (.lst xs) => match i with
      | .int k => match ixN xs.length k with
        | some j => .ok () (h.set n (.lst (xs.set j v)))
        | none => .bad
      | _ => .bad
    | some (.dic kvs) => if keyOk i && decide (kvs.length < szl) then .ok () (h.set n (.dic (putK i v kvs))) else .bad
    | _ => .bad
  | _ => .bad
/-- the attributes of an instance -/
def putFs (f : String) (v : PV) : List (String × PV) → List (String × PV)
  | [] => [(f, v)]
  | (g, w) :: r => if g = f then (g, v) :: r else (g, w) :: putFs f v r
def fldV (o : PV) (f : String) (h : PH) : R PV := match o with
  | .ref n => match h[n]? with
    | some (.ins _ fs) => oneR (fs.lookup f) h
    | some (.exn _ fs) => oneR (fs.lookup f) h
    | _ => .bad
  | _ => .bad
/-- of an instance alone -/
def fldI (o : PV) (f : String) (h : PH) : R PV := match o with
  | .ref n => match h[n]? with
    | some (.ins _ fs) => oneR (fs.lookup f) h
    | _ => .bad
  | _ => .bad
def setfV (o : PV) (f : String) (v : PV) (h : PH) : R Unit := match o with
  | .ref n => match h[n]? with
    | some (.ins c fs) => if fs.length < 900 then .ok () (h.set n (.ins c (putFs f v fs))) else .bad
    | _ => .bad
  | _ => .bad
/-- the class of an instance, one of cs, that has no attribute m of its own -/
def clsOf (o : PV) (m : String) (cs : List String) (h : PH) : Option String := match o with
  | .ref n => match h[n]? with
    | some (.ins c fs) => if fs.lookup m = none ∧ c ∈ cs then some c else none
    | _ => none
  | _ => none
def augV (neg : Bool) (x y : PV) (h : PH) : R PV := match x, y with
  | .int i, .int j => .ok (.int (if neg then i - j else i + j)) h
  | _, _ => .bad
/-- an instance of the same class -/
def sameC (x : PV) (h h' : PH) : Bool := match x with
  | .ref n => match h[n]?, h'[n]? with
    | some (.ins c _), some (.ins d _) => decide (c = d)
    | _, _ => false
  | _ => false
def setAll : List Nat → List PV → Env → Option Env
  | [], [], ρ => some ρ
  | i :: is, v :: vs, ρ => setAll is vs (ρ.set i (some v))
  | _, _, _ => none
/-- keys and values by turns -/
def kvsOf : List PV → Option (List (PV × PV))
  | [] => some []
  | [_] => none
  | k :: v :: r => (kvsOf r).map fun l => (k, v) :: l
def putAll (kvs : List (PV × PV)) : List (PV × PV) → List (PV × PV)
  | [] => kvs
  | (k, v) :: r => putAll (putK k v kvs) r
/-- the pairs that a dict comprehension made -/
def putTs (kvs : List (PV × PV)) : List PV → List (PV × PV)
  | [] => kvs
  | .tup [k, v] :: r => putTs (putK k v kvs) r
  | _ :: r => putTs kvs r
def permV (ix : List Nat) (vs : List PV) : Option (List PV) := if vs.length = ix.length then mapO (fun i => vs[i]?) ix else none
/-- a result of an expression, in a statement -/
def R.lift {α : Type} (ρ : Env) : R α → (α → PH → R Fl) → R Fl
  | .ok a h, f => f a h
  | .exc x h, _ => .ok (.xc x ρ) h
  | .bad, _ => .bad
@[simp] theorem lift_ok {α : Type} (ρ : Env) (a : α) (h : PH) (f : α → PH → R Fl) : (R.ok a h).lift ρ f = f a h := rfl
@[simp] theorem lift_exc {α : Type} (ρ : Env) (x : PX) (h : PH) (f : α → PH → R Fl) : (R.exc x h : R α).lift ρ f = .ok (.xc x ρ) h := rfl
@[simp] theorem lift_bad {α : Type} (ρ : Env) (f : α → PH → R Fl) : (R.bad : R α).lift ρ f = .bad := rfl
theorem lift_of {α : Type} {ρ : Env} {r : R α} {a : α} {h : PH} (e : r = .ok a h) (f : α → PH → R Fl) : r.lift ρ f = f a h := by rw [e]; rfl
/-- the name of an except clause goes -/
def unF (i : Nat) : R Fl → R Fl
  | .ok (.nx ρ) h => .ok (.nx (ρ.set i none)) h
  | .ok (.bk ρ) h => .ok (.bk (ρ.set i none)) h
  | .ok (.ct ρ) h => .ok (.ct (ρ.set i none)) h
  | .ok (.rt v) h => .ok (.rt v) h
  | _ => .bad
/-- no exception leaves an except suite -/
def noxF : R Fl → R Fl
  | .ok (.xc _ _) _ => .bad
  | .ok f h => .ok f h
  | _ => .bad
/-- what an own __len__, __contains__, __eq__ gives -/
def lenR (r : PV) (h : PH) : R PV := match r with
  | .int i => if 0 ≤ i ∧ i < 4611686018427387904 then .ok (.int i) h else .bad
  | _ => .bad
def negR (neg : Bool) (r : PV) (h : PH) : R PV := match r with
  | .bl t => .ok (.bl (if neg then !t else t)) h
  | _ => .bad
/-! ### loops -/
def nox {α : Type} : R α → R α
  | .exc _ _ => .bad
  | r => r
def lcL (g : Gd) (step : PV → PH → R (Option PV)) : List PV → PH → R (List PV)
  | [], h => if okG g h then .ok [] h else .bad
  | x :: r, h => if okG g h then (nox (step x h)).bind fun o h1 => (lcL g step r h1).bind fun ys h2 => .ok (match o with
      | some y => y :: ys
      | none => ys) h2 else .bad
/-- parts put together; n: how many stand before -/
def lcC (g : Gd) (step : Nat → PV → PH → R (List PV)) : Nat → List PV → PH → R (List PV)
  | _, [], h => if okG g h then .ok [] h else .bad
  | n, x :: r, h => if okG g h then (nox (step n x h)).bind fun ys h1 => (lcC g step (n + ys.length) r h1).bind fun zs h2 => .ok (ys ++ zs) h2 else .bad
def forL (g : Gd) (step : PV → Env → PH → R Fl) : List PV → Env → PH → R Fl
  | [], ρ, h => if okG g h then .ok (.nx ρ) h else .bad
  | x :: r, ρ, h => if okG g h then (step x ρ h).bind fun f h1 => match f with
      | .nx ρ1 => forL g step r ρ1 h1
      | .ct ρ1 => forL g step r ρ1 h1
      | .bk ρ1 => .ok (.nx ρ1) h1
      | .rt v => .ok (.rt v) h1
      | .xc x ρ1 => .ok (.xc x ρ1) h1
    else .bad
def whL (c : Env → PH → R Bool) (body : Env → PH → R Fl) : Nat → Env → PH → R Fl
  | 0, _, _ => .bad
  | n + 1, ρ, h => (c ρ h).lift ρ fun b h1 => if b then (body ρ h1).bind fun f h2 => match f with
      | .nx ρ1 => whL c body n ρ1 h2
      | .ct ρ1 => whL c body n ρ1 h2
      | .bk ρ1 => .ok (.nx ρ1) h2
      | .rt v => .ok (.rt v) h2
      | .xc x ρ1 => .ok (.xc x ρ1) h2
    else .ok (.nx ρ) h1
def wipeE (ρ : Env) : List Nat → Env
  | [] => ρ
  | i :: r => wipeE (ρ.set i none) r
/-! ### evaluation -/
mutual
def ev (cl : Cl) : E → Env → PH → R PV
  | .v i, ρ, h => match ρ[i]? with
    | some (some v) => .ok v h
    | _ => .bad
  | .k c, _, h => .ok c h
  | .bop o a b, ρ, h => (ev cl a ρ h).bind fun x h1 => (ev cl b ρ h1).bind fun y h2 => bopV o x y h2
  | .neg a, ρ, h => (ev cl a ρ h).bind fun x h1 => match x with
    | .int i => .ok (.int (-i)) h1
    | _ => .bad
  | .nt a, ρ, h => (ev cl a ρ h).bind fun x h1 => (truR x h1).bind fun b h2 => .ok (.bl (!b)) h2
  | .and a b, ρ, h => (ev cl a ρ h).bind fun x h1 => (truR x h1).bind fun c h2 => if c then ev cl b ρ h2 else .ok x h2
  | .or a b, ρ, h => (ev cl a ρ h).bind fun x h1 => (truR x h1).bind fun c h2 => if c then .ok x h2 else ev cl b ρ h2
  | .cmp o a b, ρ, h => (ev cl a ρ h).bind fun x h1 => (ev cl b ρ h1).bind fun y h2 => cmpV o x y h2
  | .chain o o' a b c, ρ, h => (ev cl a ρ h).bind fun x h1 => (ev cl b ρ h1).bind fun y h2 => (cmpV o x y h2).bind fun r h3 => match r with
    | .bl true => (ev cl c ρ h3).bind fun z h4 => cmpV o' y z h4
    | .bl false => .ok (.bl false) h3
    | _ => .bad
  | .ite c a b, ρ, h => (ev cl c ρ h).bind fun x h1 => (truR x h1).bind fun t h2 => if t then ev cl a ρ h2 else ev cl b ρ h2
  | .call f as, ρ, h => (evs cl as ρ h).bind fun vs h1 => cl (.f f) vs h1
  | .new c as, ρ, h => (evs cl as ρ h).bind fun vs h1 => (cl (.m c "__init__") (.ref h1.length :: vs) (h1 ++ [.ins c []])).bind fun r h2 => if r = .non then .ok (.ref h1.length) h2 else .bad
  | .blt f as, ρ, h => (evs cl as ρ h).bind fun vs h1 => bltV f vs h1
  | .isi a ts, ρ, h => (ev cl a ρ h).bind fun x h1 => bR ((tyN x h1).map fun t => decide (t ∈ ts)) h1
  | .mth m o as, ρ, h => (ev cl o ρ h).bind fun x h1 => if mok m x h1 then (evs cl as ρ h1).bind fun vs h2 => mthV m x vs h2 else .bad
  | .mto m ks o as, ρ, h => (ev cl o ρ h).bind fun x h1 => match clsOf x m ks h1 with
    | some c => (evs cl as ρ h1).bind fun vs h2 => cl (.m c m) (x :: vs) h2
    | none => .bad
  | .fld o f, ρ, h => (ev cl o ρ h).bind fun x h1 => fldV x f h1
  | .prop f ks o, ρ, h => (ev cl o ρ h).bind fun x h1 => match clsOf x f ks h1 with
    | some c => nox (cl (.m c f) [x] h1)
    | none => .bad
  | .idx a b, ρ, h => (ev cl a ρ h).bind fun x h1 => (ev cl b ρ h1).bind fun y h2 => idxV x y h2
  | .slc a lo hi, ρ, h => (ev cl a ρ h).bind fun x h1 => (evo cl lo ρ h1).bind fun i h2 => (evo cl hi ρ h2).bind fun j h3 => slcV x i j h3
  | .tup es, ρ, h => (evs cl es ρ h).bind fun vs h1 => if vs.length ≤ szl then .ok (.tup vs) h1 else .bad
  | .lst es, ρ, h => (evs cl es ρ h).bind fun vs h1 => if vs.length ≤ szl then .ok (.ref h1.length) (h1 ++ [.lst vs]) else .bad
  | .dct ks vs, ρ, h => match ks, vs with
    | [], [] => .ok (.ref h.length) (h ++ [.dic []])
    | _, _ => .bad
  | .lc elt t ik its cs own, ρ, h => (evs cl its ρ h).bind fun vs h1 => match itsOf ik vs h1 with
    | some i => if i.xs.length < szl then
        (lcL i.g (fun x h2 => match bindT h2 t x (wipeE ρ own) with
          | some ρ1 => (evc cl cs ρ1 h2).bind fun b h3 => if b then (ev cl elt ρ1 h3).bind fun y h4 => .ok (some y) h4 else .ok none h3
          | none => .bad) i.xs h1).bind fun ys h5 => .ok (.ref h5.length) (h5 ++ [.lst ys])
      else .bad
    | none => .bad
  | .dsp es, ρ, h => (evs cl es ρ (h ++ [.dic []])).bind fun vs h1 => match kvsOf vs with
    | some kvs => if (kvs.all fun p => keyOk p.1) && decide (kvs.length ≤ 15) && decide (h1[h.length]? = some (.dic [])) then .ok (.ref h.length) (h1.set h.length (.dic (putAll [] kvs))) else .bad
    | none => .bad
  | .dc ke ve t ik its cs own, ρ, h => (evs cl its ρ h).bind fun vs h1 => match itsOf ik vs h1 with
    | some i => if i.xs.length < szl then
        (lcL i.g (fun x h2 => match bindT h2 t x (wipeE ρ own) with
          | some ρ1 => (evc cl cs ρ1 h2).bind fun b h3 => if b then (ev cl ke ρ1 h3).bind fun k h4 => if keyOk k then (ev cl ve ρ1 h4).bind fun y h5 => .ok (some (.tup [k, y])) h5 else .bad else .ok none h3
          | none => .bad) i.xs h1).bind fun ys h5 => .ok (.ref h5.length) (h5 ++ [.dic (putTs [] ys)])
      else .bad
    | none => .bad
  | .tups es e, ρ, h => (evs cl es ρ h).bind fun vs h1 => (ev cl e ρ h1).bind fun x h2 => match lstOf x h2 with
    | some ys => if vs.length + ys.length ≤ szl then .ok (.tup (vs ++ ys)) h2 else .bad
    | none => .bad
  | .callk f ix as, ρ, h => (evs cl as ρ h).bind fun vs h1 => match permV ix vs with
    | some us => cl (.f f) us h1
    | none => .bad
  | .gin neg kvs a, ρ, h => (ev cl a ρ h).bind fun x h1 => if isS x then .ok (.bl (if neg then !(lookK x kvs).isSome else (lookK x kvs).isSome)) h1 else .bad
  | .gget kvs a, ρ, h => (ev cl a ρ h).bind fun x h1 => if isS x then oneR (lookK x kvs) h1 else .bad
  | .rev a, ρ, h => (ev cl a ρ h).bind fun x h1 => match x with
    | .tup xs => .ok (.tup xs.reverse) h1
    | _ => .bad
  | .mkx c as, ρ, h => (evs cl as ρ h).bind fun vs h1 => if vs.length ≤ szl then .ok (.ref h1.length) (h1 ++ [.exn c []]) else .bad
  | .mkxi c f e, ρ, h => (ev cl e ρ h).bind fun x h1 => .ok (.ref h1.length) (h1 ++ [.exn c [(f, x)]])
  | .lam f b, ρ, h => cl (.l f fun h1 => ev cl b ρ h1) [.ref h.length] (h ++ [.lam])
  | .wk e, ρ, h => (ev cl e ρ h).bind fun x h1 => cl .w [x] h1
  | .ln ks e, ρ, h => (ev cl e ρ h).bind fun x h1 => match clsOf x "__len__" ks h1 with
    | some c => (cl (.m c "__len__") [x] h1).bind fun r h2 => lenR r h2
    | none => bltV "len" [x] h1
  | .inn neg ks a b, ρ, h => (ev cl a ρ h).bind fun x h1 => (ev cl b ρ h1).bind fun y h2 => match clsOf y "__contains__" ks h2 with
    | some c => (cl (.m c "__contains__") [y, x] h2).bind fun r h3 => negR neg r h3
    | none => cmpV (if neg then .notin else .isin) x y h2
  | .oeq neg ks a b, ρ, h => (ev cl a ρ h).bind fun x h1 => (ev cl b ρ h1).bind fun y h2 => match clsOf x "__eq__" ks h2 with
    | some c => (cl (.m c "__eq__") [x, y] h2).bind fun r h3 => negR neg r h3
    | none => cmpV (if neg then .ne else .eq) x y h2
  | .lc2 elt t ik its cs own t2 ik2 its2 cs2 own2, ρ, h => (evs cl its ρ h).bind fun vs h1 => match itsOf ik vs h1 with
    | some i => (lcC i.g (fun n x h2 => match bindT h2 t x (wipeE ρ own) with
        | some ρ1 => (evc cl cs ρ1 h2).bind fun b h3 => if b then (evs cl its2 ρ1 h3).bind fun us h4 => match itsOf ik2 us h4 with
            | some i2 => if n + i2.xs.length < szl then lcL i2.g (fun y h5 => match bindT h5 t2 y (wipeE ρ1 own2) with
                | some ρ2 => (evc cl cs2 ρ2 h5).bind fun b h6 => if b then (ev cl elt ρ2 h6).bind fun z h7 => .ok (some z) h7 else .ok none h6
                | none => .bad) i2.xs h4 else .bad
            | none => .bad
          else .ok [] h3
        | none => .bad) 0 i.xs h1).bind fun ys h5 => .ok (.ref h5.length) (h5 ++ [.lst ys])
    | none => .bad
def evs (cl : Cl) : List E → Env → PH → R (List PV)
  | [], _, h => .ok [] h
  | e :: es, ρ, h => (ev cl e ρ h).bind fun x h1 => (evs cl es ρ h1).bind fun xs h2 => .ok (x :: xs) h2
/-- all tests, from the left -/
def evc (cl : Cl) : List E → Env → PH → R Bool
  | [], _, h => .ok true h
  | e :: es, ρ, h => (ev cl e ρ h).bind fun x h1 => (truR x h1).bind fun b h2 => if b then evc cl es ρ h2 else .ok false h2
def evo (cl : Cl) : Option E → Env → PH → R (Option Int)
  | none, _, h => .ok none h
  | some e, ρ, h => (ev cl e ρ h).bind fun x h1 => match x with
    | .int i => .ok (some i) h1
    | _ => .bad
end
/-- a test -/
def tst (cl : Cl) (e : E) (ρ : Env) (h : PH) : R Bool := (ev cl e ρ h).bind fun x h1 => truR x h1
def wfuel : Nat := 1000000000
mutual
def ex (cl : Cl) : S → Env → PH → R Fl
  | .asg t e, ρ, h => (ev cl e ρ h).lift ρ fun x h1 => match bindT h1 t x ρ with
    | some ρ1 => .ok (.nx ρ1) h1
    | none => .bad
  | .par is es, ρ, h => (evs cl es ρ h).lift ρ fun xs h1 => match setAll is xs ρ with
    | some ρ1 => .ok (.nx ρ1) h1
    | none => .bad
  | .seti o i e, ρ, h => (ev cl e ρ h).lift ρ fun x h1 => (ev cl o ρ h1).lift ρ fun y h2 => (ev cl i ρ h2).lift ρ fun z h3 => (setiV y z x h3).lift ρ fun _ h4 => .ok (.nx ρ) h4
  | .setf o f e, ρ, h => (ev cl e ρ h).lift ρ fun x h1 => (ev cl o ρ h1).lift ρ fun y h2 => (setfV y f x h2).lift ρ fun _ h3 => .ok (.nx ρ) h3
  | .aug i o e, ρ, h => match ρ[i]? with
    | some (some x) => (ev cl e ρ h).lift ρ fun y h1 => (augV o x y h1).lift ρ fun z h2 => .ok (.nx (ρ.set i (some z))) h2
    | _ => .bad
  | .augf o f op e, ρ, h => (ev cl o ρ h).lift ρ fun x h1 => (fldI x f h1).lift ρ fun y h2 => (ev cl e ρ h2).lift ρ fun z h3 => if sameC x h2 h3 then (augV op y z h3).lift ρ fun w h4 => (setfV x f w h4).lift ρ fun _ h5 => .ok (.nx ρ) h5 else .bad
  | .ex e, ρ, h => (ev cl e ρ h).lift ρ fun _ h1 => .ok (.nx ρ) h1
  | .ret e, ρ, h => (ev cl e ρ h).lift ρ fun x h1 => .ok (.rt x) h1
  | .ite c a b, ρ, h => (tst cl c ρ h).lift ρ fun t h1 => if t then exs cl a ρ h1 else exs cl b ρ h1
  | .for_ t ik its body, ρ, h => (evs cl its ρ h).lift ρ fun vs h1 => match itsOf ik vs h1 with
    | some i => forL i.g (fun x ρ1 h2 => match bindT h2 t x ρ1 with
        | some ρ2 => exs cl body ρ2 h2
        | none => .bad) i.xs ρ h1
    | none => .bad
  | .while_ c body, ρ, h => whL (fun ρ1 h1 => tst cl c ρ1 h1) (fun ρ1 h1 => exs cl body ρ1 h1) wfuel ρ h
  | .pass, ρ, h => .ok (.nx ρ) h
  | .brk, ρ, h => .ok (.bk ρ) h
  | .cnt, ρ, h => .ok (.ct ρ) h
  | .raise c as, ρ, h => (evs cl as ρ h).lift ρ fun vs h1 => if vs.length ≤ szl then .ok (.xc ⟨c, []⟩ ρ) h1 else .bad
  | .raiseI c f e, ρ, h => (ev cl e ρ h).lift ρ fun x h1 => .ok (.xc ⟨c, [(f, x)]⟩ ρ) h1
  | .try_ body ks suite, ρ, h => (exs cl body ρ h).bind fun f h1 => match f with
    | .nx ρ1 => .ok (.nx ρ1) h1
    | .rt v => .ok (.rt v) h1
    | .bk ρ1 => .ok (.bk ρ1) h1
    | .ct ρ1 => .ok (.ct ρ1) h1
    | .xc x ρ1 => if x.cls ∈ ks then noxF (exs cl suite ρ1 h1) else .ok (.xc x ρ1) h1
  | .tryA body ks i suite, ρ, h => (exs cl body ρ h).bind fun f h1 => match f with
    | .nx ρ1 => .ok (.nx ρ1) h1
    | .rt v => .ok (.rt v) h1
    | .bk ρ1 => .ok (.bk ρ1) h1
    | .ct ρ1 => .ok (.ct ρ1) h1
    | .xc x ρ1 => if x.cls ∈ ks then unF i (exs cl suite (ρ1.set i (some (.ref h1.length))) (h1 ++ [.exn x.cls x.fs])) else .ok (.xc x ρ1) h1
def exs (cl : Cl) : List S → Env → PH → R Fl
  | [], ρ, h => .ok (.nx ρ) h
  | s :: r, ρ, h => (ex cl s ρ h).bind fun f h1 => match f with
    | .nx ρ1 => exs cl r ρ1 h1
    | .rt v => .ok (.rt v) h1
    | .bk ρ1 => .ok (.bk ρ1) h1
    | .ct ρ1 => .ok (.ct ρ1) h1
    | .xc x ρ1 => .ok (.xc x ρ1) h1
end
/-! ### defs -/
structure Fn where
  np : Nat
  nl : Nat
  body : List S
/-- what a body's end is to the caller -/
def endR : R Fl → R PV
  | .ok (.nx _) h => .ok .non h
  | .ok (.rt v) h => .ok v h
  | .ok (.xc x _) h => .exc x h
  | _ => .bad
def Fn.run (cl : Cl) (f : Fn) (vs : List PV) (h : PH) : R PV :=
  if vs.length = f.np then endR (exs cl f.body (vs.map some ++ List.replicate f.nl none) h) else .bad
/-- what a lambda is: k, its body where it was made (nothing that makes the store shorter) -/
def grw (h : PH) : R PV → R PV
  | .ok v h1 => if h.length ≤ h1.length then .ok v h1 else .bad
  | .exc x h1 => if h.length ≤ h1.length then .exc x h1 else .bad
  | .bad => .bad
def wkV (n0 : Nat) (k : PH → R PV) (vs : List PV) (h : PH) : R PV := match vs with
  | [.ref n] => if n = n0 then grw h (k h) else .bad
  | _ => .bad
/-- .. and how a def that got one calls -/
def clL (cl : Cl) (n0 : Nat) (k : PH → R PV) : Cl := fun f vs h => match f with
  | .w => wkV n0 k vs h
  | .f x => cl (.f x) vs h
  | .m c x => cl (.m c x) vs h
  | .l x k2 => cl (.l x k2) vs h
def lamV (t : FN → Option Fn) (cl : Cl) (f : FN) (vs : List PV) (h : PH) : R PV := match f with
  | .l x k => match t (.f x), vs with
    | some d, [.ref n] => d.run (clL cl n k) [.ref n] h
    | _, _ => .bad
  | _ => .bad
/-- calls, at most n within one another -/
def callN (t : FN → Option Fn) : Nat → Cl
  | 0 => fun _ _ _ => .bad
  | n + 1 => fun f vs h => match t f with
    | some d => d.run (callN t n) vs h
    | none => lamV t (callN t n) f vs h
end Mi

/-! Mi2g: no evaluation makes the store shorter. -/
set_option linter.all false
set_option maxHeartbeats 1000000
namespace Mi
def Gro {α : Type} (h : PH) : R α → Prop
  | .ok _ h' => h.length ≤ h'.length
  | .exc _ h' => h.length ≤ h'.length
  | .bad => True
theorem Gro.bind {α β : Type} {h : PH} {r : R α} {f : α → PH → R β} (a : Gro h r) (b : ∀ x h1, h.length ≤ h1.length → Gro h1 (f x h1)) : Gro h (r.bind f) := by
  cases r with
  | ok x h1 =>
    have a' : h.length ≤ h1.length := a
    have q := b x h1 a'
    show Gro h (f x h1)
    cases e : f x h1 with
    | ok y h2 => rw [e] at q; exact Nat.le_trans a' q
    | exc y h2 => rw [e] at q; exact Nat.le_trans a' q
    | bad => trivial
  | exc x h1 => exact a
  | bad => trivial
theorem Gro.refl {α : Type} {h : PH} {x : α} : Gro h (.ok x h) := Nat.le_refl _
theorem Gro.app {α : Type} {h g : PH} {x : α} : Gro h (.ok x (h ++ g)) := by
  show h.length ≤ (h ++ g).length
  rw [List.length_append]
  omega
theorem Gro.set {α : Type} {h : PH} {x : α} {n : Nat} {o : PO} : Gro h (.ok x (h.set n o)) := by
  show h.length ≤ (h.set n o).length
  rw [List.length_set]
  omega
theorem Gro.bad {α : Type} {h : PH} : Gro h (.bad : R α) := trivial
local macro_rules | `(tactic| trivial) => `(tactic| exact Gro.refl)
local macro_rules | `(tactic| trivial) => `(tactic| exact Gro.app)
local macro_rules | `(tactic| trivial) => `(tactic| exact Gro.set)
local macro_rules | `(tactic| trivial) => `(tactic| exact Gro.bad)
theorem oneR_gro {α : Type} {o : Option α} {h : PH} : Gro h (oneR o h) := by cases o <;> trivial
theorem bR_gro {o : Option Bool} {h : PH} : Gro h (bR o h) := by cases o <;> trivial
theorem nbR_gro {o : Option Bool} {h : PH} : Gro h (nbR o h) := by cases o <;> trivial
theorem truR_gro {v : PV} {h : PH} : Gro h (truR v h) := by unfold truR; split <;> trivial
theorem bopV_gro {o : BOp} {x y : PV} {h : PH} : Gro h (bopV o x y h) := by unfold bopV; repeat' split <;> try trivial
theorem cmpV_gro {o : COp} {x y : PV} {h : PH} : Gro h (cmpV o x y h) := by
  unfold cmpV
  split
  · exact bR_gro
  · exact nbR_gro
  · exact bR_gro
  · exact nbR_gro
  all_goals (repeat' split <;> try trivial)
theorem idxV_gro {x y : PV} {h : PH} : Gro h (idxV x y h) := by unfold idxV; (repeat' split) <;> first | trivial | exact oneR_gro
theorem slcV_gro {x : PV} {lo hi : Option Int} {h : PH} : Gro h (slcV x lo hi h) := by unfold slcV; repeat' split <;> try trivial
theorem fldI_gro {x : PV} {f : String} {h : PH} : Gro h (fldI x f h) := by unfold fldI; (repeat' split) <;> first | trivial | exact oneR_gro
theorem fldV_gro {x : PV} {f : String} {h : PH} : Gro h (fldV x f h) := by unfold fldV; (repeat' split) <;> first | trivial | exact oneR_gro
theorem setfV_gro {x v : PV} {f : String} {h : PH} : Gro h (setfV x f v h) := by unfold setfV; repeat' split <;> try trivial
theorem setiV_gro {o i v : PV} {h : PH} : Gro h (setiV o i v h) := by unfold setiV; repeat' split <;> try trivial
theorem appV_gro {x : PV} {vs : List PV} {h : PH} : Gro h (appV x vs h) := by unfold appV; repeat' split <;> try trivial
theorem extV_gro {x : PV} {vs : List PV} {h : PH} : Gro h (extV x vs h) := by unfold extV; repeat' split <;> try trivial
theorem popV_gro {x : PV} {vs : List PV} {h : PH} : Gro h (popV x vs h) := by unfold popV; repeat' split <;> try trivial
theorem getV_gro {x : PV} {vs : List PV} {h : PH} : Gro h (getV x vs h) := by unfold getV; repeat' split <;> try trivial
theorem joinV_gro {x : PV} {vs : List PV} {h : PH} : Gro h (joinV x vs h) := by unfold joinV; repeat' split <;> try trivial
theorem endsV_gro {x : PV} {vs : List PV} {h : PH} : Gro h (endsV x vs h) := by unfold endsV; repeat' split <;> try trivial
theorem sidxV_gro {x : PV} {vs : List PV} {h : PH} : Gro h (sidxV x vs h) := by unfold sidxV; repeat' split <;> try trivial
def GroC (cl : Cl) : Prop := ∀ f vs h, Gro h (cl f vs h)
theorem mthV_gro {m : String} {x : PV} {vs : List PV} {h : PH} : Gro h (mthV m x vs h) := by
  unfold mthV
  split
  · exact appV_gro
  · exact extV_gro
  · exact popV_gro
  · exact getV_gro
  · exact joinV_gro
  · exact endsV_gro
  · exact sidxV_gro
  · trivial
theorem bltV_gro {f : String} {vs : List PV} {h : PH} : Gro h (bltV f vs h) := by
  unfold bltV
  (repeat' split) <;> first | trivial | exact oneR_gro
theorem nox_gro {α : Type} {r : R α} {h : PH} (g : Gro h r) : Gro h (nox r) := by cases r <;> first | exact g | trivial
theorem lcL_gro {g : Gd} {step : PV → PH → R (Option PV)} (hs : ∀ x h, Gro h (step x h)) : ∀ (xs : List PV) (h : PH), Gro h (lcL g step xs h)
  | [], h => by unfold lcL; split <;> trivial
  | x :: r, h => by
    unfold lcL
    split
    · exact (nox_gro (hs x h)).bind fun o h1 _ => (lcL_gro hs r h1).bind fun ys h2 _ => by split <;> trivial
    · trivial
theorem lcC_gro {g : Gd} {step : Nat → PV → PH → R (List PV)} (hs : ∀ n x h, Gro h (step n x h)) : ∀ (n : Nat) (xs : List PV) (h : PH), Gro h (lcC g step n xs h)
  | _, [], h => by unfold lcC; split <;> first | trivial | exact Gro.refl
  | n, x :: r, h => by
    unfold lcC
    split
    · exact (nox_gro (hs n x h)).bind fun o h1 _ => (lcC_gro hs _ r h1).bind fun ys h2 _ => Gro.refl
    · trivial
theorem Gro.lift {α : Type} {ρ : Env} {r : R α} {f : α → PH → R Fl} {h : PH} (g : Gro h r) (k : ∀ a h1, h.length ≤ h1.length → Gro h1 (f a h1)) : Gro h (r.lift ρ f) := by
  cases r with
  | ok a h1 => exact g.bind (r := R.ok a h1) k
  | exc x h1 => exact g
  | bad => trivial
theorem augV_gro {n : Bool} {x y : PV} {h : PH} : Gro h (augV n x y h) := by unfold augV; repeat' split <;> try trivial
theorem unF_gro {i : Nat} {r : R Fl} {h : PH} (g : Gro h r) : Gro h (unF i r) := by unfold unF; split <;> first | exact g | trivial
theorem Gro.app1 {α : Type} {r : R α} {h : PH} {o : PO} (g : Gro (h ++ [o]) r) : Gro h r := by
  cases r with
  | ok a h1 => exact Nat.le_trans (by simp) g
  | exc x h1 => exact Nat.le_trans (by simp) g
  | bad => exact g
theorem noxF_gro {r : R Fl} {h : PH} (g : Gro h r) : Gro h (noxF r) := by unfold noxF; split <;> first | exact g | trivial
theorem forL_gro {g : Gd} {step : PV → Env → PH → R Fl} (hs : ∀ x ρ h, Gro h (step x ρ h)) : ∀ (xs : List PV) (ρ : Env) (h : PH), Gro h (forL g step xs ρ h)
  | [], ρ, h => by unfold forL; split <;> trivial
  | x :: r, ρ, h => by
    unfold forL
    split
    · exact (hs x ρ h).bind fun f h1 _ => by split <;> first | exact forL_gro hs r _ _ | trivial
    · trivial
theorem whL_gro {c : Env → PH → R Bool} {b : Env → PH → R Fl} (hc : ∀ ρ h, Gro h (c ρ h)) (hb : ∀ ρ h, Gro h (b ρ h)) : ∀ (n : Nat) (ρ : Env) (h : PH), Gro h (whL c b n ρ h)
  | 0, _, _ => trivial
  | n + 1, ρ, h => by
    unfold whL
    exact (hc ρ h).lift fun t h1 _ => by
      split
      · exact (hb ρ h1).bind fun f h2 _ => by split <;> first | exact whL_gro hc hb n _ _ | trivial
      · trivial
theorem lenR_gro {r : PV} {h : PH} : Gro h (lenR r h) := by unfold lenR; repeat' split <;> try trivial
theorem negR_gro {neg : Bool} {r : PV} {h : PH} : Gro h (negR neg r h) := by unfold negR; repeat' split <;> try trivial
theorem app_le {h1 h2 g : PH} (l : (h1 ++ g).length ≤ h2.length) : h1.length ≤ h2.length := by rw [List.length_append] at l; omega
mutual
theorem ev_gro {cl : Cl} (hc : GroC cl) : ∀ (c : E) (ρ : Env) (h : PH), Gro h (ev cl c ρ h)
  | .v i, ρ, h => by simp only [ev]; split <;> trivial
  | .k c, ρ, h => by simp only [ev]; trivial
  | .bop o a b, ρ, h => by simp only [ev]; exact (ev_gro hc a ρ h).bind fun x h1 _ => (ev_gro hc b ρ h1).bind fun y h2 _ => bopV_gro
  | .neg a, ρ, h => by simp only [ev]; exact (ev_gro hc a ρ h).bind fun x h1 _ => by split <;> trivial
  | .nt a, ρ, h => by simp only [ev]; exact (ev_gro hc a ρ h).bind fun x h1 _ => truR_gro.bind fun b h2 _ => Gro.refl
  | .and a b, ρ, h => by simp only [ev]; exact (ev_gro hc a ρ h).bind fun x h1 _ => truR_gro.bind fun t h2 _ => by split <;> first | exact ev_gro hc b ρ h2 | trivial
  | .or a b, ρ, h => by simp only [ev]; exact (ev_gro hc a ρ h).bind fun x h1 _ => truR_gro.bind fun t h2 _ => by split <;> first | exact ev_gro hc b ρ h2 | trivial
  | .cmp o a b, ρ, h => by simp only [ev]; exact (ev_gro hc a ρ h).bind fun x h1 _ => (ev_gro hc b ρ h1).bind fun y h2 _ => cmpV_gro
  | .chain o o' a b c, ρ, h => by
    simp only [ev]
    exact (ev_gro hc a ρ h).bind fun x h1 _ => (ev_gro hc b ρ h1).bind fun y h2 _ => cmpV_gro.bind fun r h3 _ => by
      split
      · exact (ev_gro hc c ρ h3).bind fun z h4 _ => cmpV_gro
      · trivial
      · trivial
  | .ite c a b, ρ, h => by simp only [ev]; exact (ev_gro hc c ρ h).bind fun x h1 _ => truR_gro.bind fun t h2 _ => by split <;> first | exact ev_gro hc a ρ h2 | exact ev_gro hc b ρ h2
  | .call f as, ρ, h => by simp only [ev]; exact (evs_gro hc as ρ h).bind fun vs h1 _ => hc _ _ _
  | .new c as, ρ, h => by
    simp only [ev]
    refine (evs_gro hc as ρ h).bind fun vs h1 _ => ?_
    have q := (hc (.m c "__init__") (.ref h1.length :: vs) (h1 ++ [.ins c []])).bind (f := fun r h2 => if r = .non then R.ok (PV.ref h1.length) h2 else .bad) fun r h2 _ => by split <;> trivial
    cases e : (cl (.m c "__init__") (.ref h1.length :: vs) (h1 ++ [.ins c []])).bind fun r h2 => if r = .non then R.ok (PV.ref h1.length) h2 else .bad with
    | ok v h2 => rw [e] at q; exact app_le q
    | exc v h2 => rw [e] at q; exact app_le q
    | bad => trivial
  | .blt f as, ρ, h => by simp only [ev]; exact (evs_gro hc as ρ h).bind fun vs h1 _ => bltV_gro
  | .isi a ts, ρ, h => by simp only [ev]; exact (ev_gro hc a ρ h).bind fun x h1 _ => bR_gro
  | .mth m o as, ρ, h => by
    simp only [ev]
    refine (ev_gro hc o ρ h).bind fun x h1 _ => ?_
    split
    · exact (evs_gro hc as ρ h1).bind fun vs h2 _ => mthV_gro
    · trivial
  | .mto m ks o as, ρ, h => by
    simp only [ev]
    refine (ev_gro hc o ρ h).bind fun x h1 _ => ?_
    split
    · exact (evs_gro hc as ρ h1).bind fun vs h2 _ => hc _ _ _
    · trivial
  | .fld o f, ρ, h => by simp only [ev]; exact (ev_gro hc o ρ h).bind fun x h1 _ => fldV_gro
  | .prop f ks o, ρ, h => by simp only [ev]; exact (ev_gro hc o ρ h).bind fun x h1 _ => by split <;> first | exact nox_gro (hc _ _ _) | trivial
  | .idx a b, ρ, h => by simp only [ev]; exact (ev_gro hc a ρ h).bind fun x h1 _ => (ev_gro hc b ρ h1).bind fun y h2 _ => idxV_gro
  | .slc a lo hi, ρ, h => by simp only [ev]; exact (ev_gro hc a ρ h).bind fun x h1 _ => (evo_gro hc lo ρ h1).bind fun i h2 _ => (evo_gro hc hi ρ h2).bind fun j h3 _ => slcV_gro
  | .tup es, ρ, h => by simp only [ev]; exact (evs_gro hc es ρ h).bind fun vs h1 _ => by split <;> trivial
  | .lst es, ρ, h => by simp only [ev]; exact (evs_gro hc es ρ h).bind fun vs h1 _ => by split <;> trivial
  | .dct ks vs, ρ, h => by simp only [ev]; split <;> trivial
  | .lc elt t ik its cs own, ρ, h => by
    simp only [ev]
    refine (evs_gro hc its ρ h).bind fun vs h1 _ => ?_
    split
    · split
      · refine (lcL_gro (fun x h2 => ?_) _ _).bind fun ys h5 _ => Gro.app
        split
        · exact (evc_gro hc cs _ h2).bind fun b h3 _ => by
            split
            · exact (ev_gro hc elt _ h3).bind fun y h4 _ => Gro.refl
            · trivial
        · trivial
      · trivial
    · trivial
  | .mkx c as, ρ, h => by
    simp only [ev]
    exact (evs_gro hc as ρ h).bind fun vs h1 _ => by split <;> first | exact Gro.app | trivial
  | .mkxi c f e, ρ, h => by
    simp only [ev]
    exact (ev_gro hc e ρ h).bind fun x h1 _ => Gro.app
  | .lam f b, ρ, h => by
    simp only [ev]
    exact Gro.app1 (hc _ _ _)
  | .wk e, ρ, h => by
    simp only [ev]
    exact (ev_gro hc e ρ h).bind fun x h1 _ => hc _ _ _
  | .ln ks e, ρ, h => by
    simp only [ev]
    exact (ev_gro hc e ρ h).bind fun x h1 _ => by
      split
      · exact (hc _ _ _).bind fun r h2 _ => lenR_gro
      · exact bltV_gro
  | .inn neg ks a b, ρ, h => by
    simp only [ev]
    exact (ev_gro hc a ρ h).bind fun x h1 _ => (ev_gro hc b ρ h1).bind fun y h2 _ => by
      split
      · exact (hc _ _ _).bind fun r h3 _ => negR_gro
      · exact cmpV_gro
  | .oeq neg ks a b, ρ, h => by
    simp only [ev]
    exact (ev_gro hc a ρ h).bind fun x h1 _ => (ev_gro hc b ρ h1).bind fun y h2 _ => by
      split
      · exact (hc _ _ _).bind fun r h3 _ => negR_gro
      · exact cmpV_gro
  | .dsp es, ρ, h => by
    simp only [ev]
    refine Gro.app1 (o := .dic []) ?_
    refine (evs_gro hc es ρ (h ++ [.dic []])).bind fun vs h1 _ => ?_
    split
    · split
      · exact Gro.set
      · trivial
    · trivial
  | .dc ke ve t ik its cs own, ρ, h => by
    simp only [ev]
    refine (evs_gro hc its ρ h).bind fun vs h1 _ => ?_
    split
    · split
      · refine (lcL_gro (fun x h2 => ?_) _ _).bind fun ys h5 _ => Gro.app
        split
        · exact (evc_gro hc cs _ h2).bind fun b h3 _ => by
            split
            · exact (ev_gro hc ke _ h3).bind fun k h4 _ => by
                split
                · exact (ev_gro hc ve _ h4).bind fun y h5 _ => Gro.refl
                · trivial
            · trivial
        · trivial
      · trivial
    · trivial
  | .tups es e, ρ, h => by
    simp only [ev]
    refine (evs_gro hc es ρ h).bind fun vs h1 _ => (ev_gro hc e ρ h1).bind fun x h2 _ => ?_
    split
    · split <;> trivial
    · trivial
  | .callk f ix as, ρ, h => by
    simp only [ev]
    refine (evs_gro hc as ρ h).bind fun vs h1 _ => ?_
    split
    · exact hc _ _ _
    · trivial
  | .gin neg kvs a, ρ, h => by
    simp only [ev]
    exact (ev_gro hc a ρ h).bind fun x h1 _ => by split <;> trivial
  | .gget kvs a, ρ, h => by
    simp only [ev]
    exact (ev_gro hc a ρ h).bind fun x h1 _ => by
      split
      · exact oneR_gro
      · trivial
  | .rev a, ρ, h => by
    simp only [ev]
    exact (ev_gro hc a ρ h).bind fun x h1 _ => by split <;> trivial
  | .lc2 elt t ik its cs own t2 ik2 its2 cs2 own2, ρ, h => by
    simp only [ev]
    refine (evs_gro hc its ρ h).bind fun vs h1 _ => ?_
    split
    · refine (lcC_gro (fun n x h2 => ?_) _ _ _).bind fun ys h5 _ => Gro.app
      split
      · refine (evc_gro hc cs _ h2).bind fun b h3 _ => ?_
        split
        · refine (evs_gro hc its2 _ h3).bind fun us h4 _ => ?_
          split
          · split
            · refine lcL_gro (fun y h5 => ?_) _ _
              split
              · exact (evc_gro hc cs2 _ h5).bind fun b h6 _ => by
                  split
                  · exact (ev_gro hc elt _ h6).bind fun y h4 _ => Gro.refl
                  · trivial
              · trivial
            · trivial
          · trivial
        · exact Gro.refl
      · trivial
    · trivial
theorem evs_gro {cl : Cl} (hc : GroC cl) : ∀ (c : List E) (ρ : Env) (h : PH), Gro h (evs cl c ρ h)
  | [], ρ, h => by simp only [evs]; trivial
  | e :: es, ρ, h => by simp only [evs]; exact (ev_gro hc e ρ h).bind fun x h1 _ => (evs_gro hc es ρ h1).bind fun xs h2 _ => Gro.refl
theorem evc_gro {cl : Cl} (hc : GroC cl) : ∀ (c : List E) (ρ : Env) (h : PH), Gro h (evc cl c ρ h)
  | [], ρ, h => by simp only [evc]; trivial
  | e :: es, ρ, h => by simp only [evc]; exact (ev_gro hc e ρ h).bind fun x h1 _ => truR_gro.bind fun b h2 _ => by split <;> first | exact evc_gro hc es ρ h2 | trivial
theorem evo_gro {cl : Cl} (hc : GroC cl) : ∀ (c : Option E) (ρ : Env) (h : PH), Gro h (evo cl c ρ h)
  | none, ρ, h => by simp only [evo]; trivial
  | some e, ρ, h => by simp only [evo]; exact (ev_gro hc e ρ h).bind fun x h1 _ => by split <;> trivial
end
theorem tst_gro {cl : Cl} (hc : GroC cl) (c : E) (ρ : Env) (h : PH) : Gro h (tst cl c ρ h) := (ev_gro hc c ρ h).bind fun x h1 _ => truR_gro
mutual
theorem ex_gro {cl : Cl} (hc : GroC cl) : ∀ (c : S) (ρ : Env) (h : PH), Gro h (ex cl c ρ h)
  | .asg t e, ρ, h => by simp only [ex]; exact (ev_gro hc e ρ h).lift fun x h1 _ => by split <;> trivial
  | .seti o i e, ρ, h => by simp only [ex]; exact (ev_gro hc e ρ h).lift fun x h1 _ => (ev_gro hc o ρ h1).lift fun y h2 _ => (ev_gro hc i ρ h2).lift fun z h3 _ => setiV_gro.lift fun _ h4 _ => Gro.refl
  | .setf o f e, ρ, h => by simp only [ex]; exact (ev_gro hc e ρ h).lift fun x h1 _ => (ev_gro hc o ρ h1).lift fun y h2 _ => setfV_gro.lift fun _ h4 _ => Gro.refl
  | .aug i o e, ρ, h => by
    simp only [ex]
    split
    · exact (ev_gro hc e ρ h).lift fun x h1 _ => augV_gro.lift fun z h2 _ => Gro.refl
    · trivial
  | .augf o f op e, ρ, h => by
    simp only [ex]
    refine (ev_gro hc o ρ h).lift fun x h1 _ => fldI_gro.lift fun y h2 _ => (ev_gro hc e ρ h2).lift fun z h3 _ => ?_
    split
    · exact augV_gro.lift fun w h4 _ => setfV_gro.lift fun _ h5 _ => Gro.refl
    · trivial
  | .ex e, ρ, h => by simp only [ex]; exact (ev_gro hc e ρ h).lift fun x h1 _ => Gro.refl
  | .ret e, ρ, h => by simp only [ex]; exact (ev_gro hc e ρ h).lift fun x h1 _ => Gro.refl
  | .ite c a b, ρ, h => by simp only [ex]; exact (tst_gro hc c ρ h).lift fun x h1 _ => by split <;> first | exact exs_gro hc a ρ h1 | exact exs_gro hc b ρ h1
  | .for_ t ik its body, ρ, h => by
    simp only [ex]
    refine (evs_gro hc its ρ h).lift fun vs h1 _ => ?_
    split
    · exact forL_gro (fun x ρ1 h2 => by split <;> first | exact exs_gro hc body _ h2 | trivial) _ _ _
    · trivial
  | .while_ c body, ρ, h => by simp only [ex]; exact whL_gro (fun ρ1 h1 => tst_gro hc c ρ1 h1) (fun ρ1 h1 => exs_gro hc body ρ1 h1) _ _ _
  | .pass, ρ, h => by simp only [ex]; trivial
  | .brk, ρ, h => by simp only [ex]; trivial
  | .cnt, ρ, h => by simp only [ex]; trivial
  | .raise c as, ρ, h => by simp only [ex]; exact (evs_gro hc as ρ h).lift fun x h1 _ => by split <;> first | trivial | exact Gro.refl
  | .raiseI c f e, ρ, h => by simp only [ex]; exact (ev_gro hc e ρ h).lift fun x h1 _ => by trivial
  | .par is es, ρ, h => by simp only [ex]; exact (evs_gro hc es ρ h).lift fun x h1 _ => by split <;> trivial
  | .try_ body ks suite, ρ, h => by
    simp only [ex]
    refine (exs_gro hc body ρ h).bind fun f h1 _ => ?_
    split
    · trivial
    · trivial
    · trivial
    · trivial
    · split
      · exact noxF_gro (exs_gro hc suite _ h1)
      · trivial
  | .tryA body ks i suite, ρ, h => by
    simp only [ex]
    refine (exs_gro hc body ρ h).bind fun f h1 _ => ?_
    split
    · trivial
    · trivial
    · trivial
    · trivial
    · split
      · exact unF_gro (Gro.app1 (exs_gro hc suite _ _))
      · trivial
theorem exs_gro {cl : Cl} (hc : GroC cl) : ∀ (c : List S) (ρ : Env) (h : PH), Gro h (exs cl c ρ h)
  | [], ρ, h => by simp only [exs]; trivial
  | s :: r, ρ, h => by simp only [exs]; exact (ex_gro hc s ρ h).bind fun f h1 _ => by split <;> first | exact exs_gro hc r _ h1 | trivial
end
theorem endR_gro {r : R Fl} {h : PH} (g : Gro h r) : Gro h (endR r) := by
  unfold endR
  split <;> first | exact g | trivial
theorem run_gro {cl : Cl} (hc : GroC cl) (f : Fn) (vs : List PV) (h : PH) : Gro h (f.run cl vs h) := by
  unfold Fn.run
  split
  · exact endR_gro (exs_gro hc _ _ h)
  · trivial
theorem grw_gro {h : PH} {r : R PV} : Gro h (grw h r) := by
  unfold grw
  split
  · split
    · assumption
    · trivial
  · split
    · assumption
    · trivial
  · trivial
theorem grw_of {h : PH} {r : R PV} (g : Gro h r) : grw h r = r := by
  cases r with
  | ok v h1 => exact if_pos g
  | exc v h1 => exact if_pos g
  | bad => rfl
theorem clL_gro {cl : Cl} (hc : GroC cl) (n0 : Nat) (k : PH → R PV) : GroC (clL cl n0 k) := fun f vs h => by
  cases f with
  | w =>
    show Gro h (wkV n0 k vs h)
    unfold wkV
    split
    · split
      · exact grw_gro
      · trivial
    · trivial
  | f x => exact hc _ _ _
  | m c x => exact hc _ _ _
  | l x k2 => exact hc _ _ _
theorem lamV_gro (t : FN → Option Fn) {cl : Cl} (hc : GroC cl) : GroC (lamV t cl) := fun f vs h => by
  unfold lamV
  split
  · split
    · exact run_gro (clL_gro hc _ _) _ _ _
    · trivial
  · trivial
theorem callN_gro (t : FN → Option Fn) : ∀ n, GroC (callN t n)
  | 0 => fun _ _ _ => trivial
  | n + 1 => fun f vs h => by
    unfold callN
    split
    · exact run_gro (callN_gro t n) _ _ _
    · exact lamV_gro t (callN_gro t n) _ _ _
end Mi

set_option Elab.async false
set_option linter.all false
set_option maxRecDepth 100000
/-! Mi3: how the small interpreter's store lies in the layer's abstract heap. -/
namespace Mi
open PySem L2
/-! ### texts, names -/
abbrev S2 (s : List Char) : Str := ⟨(s.map Char.toNat).toArray⟩
/-- a lambda that was handed on: its place in the store, its function, its code and the code's name, where it was made -/
structure GF where
  n0 : Nat
  f : Addr
  c : Addr
  q : Str
  ρ : Env
  σ : St
/-- the classes of instances, of exceptions; the tables of code; the lambdas at hand -/
structure Cts where
  ins : String → Addr → Prop
  exc : String → Addr → Prop
  tbs : List (Addr × Str) := []
  gh : List GF := []
/-! ### the relation: m the addresses, N the store's size, G what never changes (tuples, the script) -/
mutual
inductive Rel (K : PySem.W.Frag) (m : Nat → Addr) (N : Nat) (G : Hp) : PV → V → Prop
  | non : Rel K m N G .non .non
  | bl (b : Bool) : Rel K m N G (.bl b) (.bl b)
  | int (i : Int) : Rel K m N G (.int i) (.int i)
  | str (s : List Char) : Rel K m N G (.str s) (.str (S2 s))
  | ref {n : Nat} (h : n < N) : Rel K m N G (.ref n) (.ref (m n))
  | tup {a : Addr} {xs : List PV} {vs : List V} (h : SqT K G a vs) (r : RelL K m N G xs vs) : Rel K m N G (.tup xs) (.ref a)
inductive RelL (K : PySem.W.Frag) (m : Nat → Addr) (N : Nat) (G : Hp) : List PV → List V → Prop
  | nil : RelL K m N G [] []
  | cons {x : PV} {v : V} {xs : List PV} {vs : List V} (a : Rel K m N G x v) (r : RelL K m N G xs vs) : RelL K m N G (x :: xs) (v :: vs)
end
/-- a list of the written part -/
def KpL (K : PySem.W.Frag) (a : Addr) (xs : List V) : Prop :=
  ∃ (o : Obj) (its : Array Value) (n : Nat), K.lookup a = some o ∧ o.cls = .type "list" ∧ o.dict = none ∧ o.data = .seq its n ∧ its.size ≤ sizeLine ∧ Vals xs its.toList
/-- attributes -/
def RelF (K : PySem.W.Frag) (m : Nat → Addr) (N : Nat) (G : Hp) : List (String × PV) → List (Str × V) → Prop
  | [], [] => True
  | (f, x) :: r, (g, v) :: t => g = Str.ofString f ∧ Rel K m N G x v ∧ RelF K m N G r t
  | _, _ => False
/-- keys of a dict: ints and texts -/
def RelK : PV → Key → Prop
  | .int i, .inl j => i = j
  | .str s, .inr z => z = S2 s
  | _, _ => False
def RelD (K : PySem.W.Frag) (m : Nat → Addr) (N : Nat) (G : Hp) : List (PV × PV) → List (Key × V) → Prop
  | [], [] => True
  | (k, x) :: r, (g, v) :: t => RelK k g ∧ Rel K m N G x v ∧ RelD K m N G r t
  | _, _ => False
/-- an exception's attributes: in its dict -/
def ExF (K : PySem.W.Frag) (m : Nat → Addr) (N : Nat) (G : Hp) (fs : List (String × PV)) (d : Option Addr) : Prop :=
  (fs = [] ∧ d = none) ∨ ∃ dd gs, d = some dd ∧ G dd = some (.xd gs) ∧ RelF K m N G fs gs
def OR (K : PySem.W.Frag) (CT : Cts) (m : Nat → Addr) (N : Nat) (G H : Hp) (a : Addr) : PO → Prop
  | .lst xs => ∃ vs, H a = some (.lst vs) ∧ RelL K m N G xs vs
  | .frz xs => ∃ vs, ((∃ o, G a = some (.frz o (.lst vs))) ∨ KpL K a vs) ∧ RelL K m N G xs vs
  | .dic kvs => ∃ ks, H a = some (.dK ks) ∧ RelD K m N G kvs ks
  | .ins c fs => ∃ C dx gs, CT.ins c C ∧ H a = some (.ins C dx gs) ∧ RelF K m N G fs gs
  | .exn c fs => ∃ C d, CT.exc c C ∧ G a = some (EXO (.ref C) d a) ∧ ExF K m N G fs d
  | .lam => True
/-- not one that is only read -/
def nk : PO → Bool
  | .frz _ => false
  | .exn _ _ => false
  | .lam => false
  | _ => true
def Sub (G H : Hp) : Prop := ∀ b o, G b = some o → H b = some o
theorem Sub.refl {G : Hp} : Sub G G := fun _ _ q => q
theorem Sub.trans {G H J : Hp} (a : Sub G H) (b : Sub H J) : Sub G J := fun x o q => b x o (a x o q)
/-- the slots -/
def SR (K : PySem.W.Frag) (m : Nat → Addr) (N : Nat) (G : Hp) (ρ : Env) (σ : St) : Prop := ρ.length = σ.length ∧ ∀ (i : Nat) (x : PV), ρ[i]? = some (some x) → ∃ v, σ[i]? = some (some v) ∧ Rel K m N G x v
def GhOk (K : PySem.W.Frag) (m : Nat → Addr) (N : Nat) (G : Hp) (x : GF) : Prop := x.n0 < N ∧ m x.n0 = x.f ∧ G x.c = some (LamX.CodeO x.c x.q) ∧ SR K m N G x.ρ x.σ
/-- a table of code objects: what it tells is known to G -/
def TbOk (G H : Hp) (p : Addr × Str) : Prop := G p.1 = none ∧ ∃ ps : Array Value, H p.1 = some (.tbl ps) ∧ TriplesOk ps.toList ∧ ∀ (pos : Pos) (cv : Value), codeAmong pos ps.toList = some cv → ∃ c, cv = .ref c ∧ G c = some (LamX.CodeO c p.2)
/-- lambdas, tables -/
structure Xt (K : PySem.W.Frag) (CT : Cts) (m : Nat → Addr) (N : Nat) (G H : Hp) : Prop where
  gh : ∀ x ∈ CT.gh, GhOk K m N G x
  tb : ∀ p ∈ CT.tbs, TbOk G H p
  gt : ∀ b ps, G b ≠ some (.tbl ps)
structure HR (K : PySem.W.Frag) (CT : Cts) (m : Nat → Addr) (G H : Hp) (h : PH) : Prop where
  obj : ∀ i o, h[i]? = some o → OR K CT m h.length G H (m i) o
  inj : ∀ i j oi oj, h[i]? = some oi → h[j]? = some oj → i ≠ j → nk oi = true → nk oj = true → m i ≠ m j
  sub : Sub G H
  dj : ∀ i o, h[i]? = some o → nk o = true → G (m i) = none
  xt : Xt K CT m h.length G H
/-- the store's addresses stay -/
def Ex (m m' : Nat → Addr) (N : Nat) : Prop := ∀ n, n < N → m' n = m n
theorem Ex.refl {m : Nat → Addr} {N : Nat} : Ex m m N := fun _ _ => rfl
theorem Ex.trans {m m1 m2 : Nat → Addr} {N N1 : Nat} (a : Ex m m1 N) (b : Ex m1 m2 N1) (h : N ≤ N1) : Ex m m2 N := fun n hn => (b n (Nat.lt_of_lt_of_le hn h)).trans (a n hn)
section
variable {K : PySem.W.Frag} {CT : Cts} {m m' : Nat → Addr} {N N' : Nat} {G G' H H' : Hp} {h h' : PH}
theorem Sub.sqT (t : Sub G G') {a : Addr} {xs : List V} (q : SqT K G a xs) : SqT K G' a xs := by
  rcases q with (q | ⟨o, q⟩) | q
  · exact .inl (.inl (t _ _ q))
  · exact .inl (.inr ⟨o, t _ _ q⟩)
  · exact .inr q
mutual
theorem Rel.mono (e : Ex m m' N) (l : N ≤ N') (t : Sub G G') : ∀ {x : PV} {v : V}, Rel K m N G x v → Rel K m' N' G' x v
  | _, _, .non => .non
  | _, _, .bl b => .bl b
  | _, _, .int i => .int i
  | _, _, .str s => .str s
  | _, _, .ref (n := n) hn => by
    have q : Rel K m' N' G' (.ref n) (.ref (m' n)) := .ref (Nat.lt_of_lt_of_le hn l)
    rw [e n hn] at q
    exact q
  | _, _, .tup hs r => .tup (t.sqT hs) (RelL.mono e l t r)
theorem RelL.mono (e : Ex m m' N) (l : N ≤ N') (t : Sub G G') : ∀ {x : List PV} {v : List V}, RelL K m N G x v → RelL K m' N' G' x v
  | _, _, .nil => .nil
  | _, _, .cons a r => .cons (Rel.mono e l t a) (RelL.mono e l t r)
end
theorem SR.mono {ρ : Env} {σ : St} (s : SR K m N G ρ σ) (e : Ex m m' N) (l : N ≤ N') (t : Sub G G') : SR K m' N' G' ρ σ := ⟨s.1, fun i x q => by
  obtain ⟨v, h1, h2⟩ := s.2 i x q
  exact ⟨v, h1, h2.mono e l t⟩⟩
theorem Xt.keep (x : Xt K CT m N G H) (e : Ex m m' N) (l : N ≤ N') (k : ∀ p ps, H p = some (.tbl ps) → H' p = some (.tbl ps)) : Xt K CT m' N' G H' :=
  ⟨fun y hy => ⟨Nat.lt_of_lt_of_le (x.gh y hy).1 l, (e _ (x.gh y hy).1).trans (x.gh y hy).2.1, (x.gh y hy).2.2.1, (x.gh y hy).2.2.2.mono e l Sub.refl⟩,
    fun p hp => ⟨(x.tb p hp).1, let ⟨ps, h1, h2⟩ := (x.tb p hp).2; ⟨ps, k _ _ h1, h2⟩⟩, x.gt⟩
theorem Xt.grow (x : Xt K CT m N G H) (sg : Sub G G') (g : ∀ p ps, H p = some (.tbl ps) → H' p = some (.tbl ps) ∧ G' p = G p) (gt : ∀ b ps, G' b ≠ some (.tbl ps)) : Xt K CT m N G' H' :=
  ⟨fun y hy => ⟨(x.gh y hy).1, (x.gh y hy).2.1, sg _ _ (x.gh y hy).2.2.1, (x.gh y hy).2.2.2.mono Ex.refl (Nat.le_refl _) sg⟩,
    fun p hp => by
      obtain ⟨h0, ps, h1, h2, h3⟩ := x.tb p hp
      obtain ⟨h4, h5⟩ := g _ _ h1
      exact ⟨h5.trans h0, ps, h4, h2, fun pos cv e => let ⟨c, e1, e2⟩ := h3 pos cv e; ⟨c, e1, sg _ _ e2⟩⟩, gt⟩
theorem RelF.mono (e : Ex m m' N) (l : N ≤ N') (t : Sub G G') : ∀ {fs : List (String × PV)} {gs : List (Str × V)}, RelF K m N G fs gs → RelF K m' N' G' fs gs
  | [], [], _ => trivial
  | (f, x) :: r, (g, v) :: s, ⟨a, b, c⟩ => ⟨a, b.mono e l t, RelF.mono e l t c⟩
theorem RelD.mono (e : Ex m m' N) (l : N ≤ N') (t : Sub G G') : ∀ {fs : List (PV × PV)} {gs : List (Key × V)}, RelD K m N G fs gs → RelD K m' N' G' fs gs
  | [], [], _ => trivial
  | (f, x) :: r, (g, v) :: s, ⟨a, b, c⟩ => ⟨a, b.mono e l t, RelD.mono e l t c⟩
theorem ExF.mono (e : Ex m m' N) (l : N ≤ N') (t : Sub G G') {fs : List (String × PV)} {d : Option Addr} (x : ExF K m N G fs d) : ExF K m' N' G' fs d := by
  rcases x with x | ⟨dd, gs, h1, h2, h3⟩
  · exact .inl x
  · exact .inr ⟨dd, gs, h1, t _ _ h2, h3.mono e l t⟩
theorem RelL.length : ∀ {xs : List PV} {vs : List V}, RelL K m N G xs vs → xs.length = vs.length
  | _, _, .nil => rfl
  | _, _, .cons _ r => by rw [List.length_cons, List.length_cons, r.length]
theorem RelL.append : ∀ {xs ys : List PV} {vs ws : List V}, RelL K m N G xs vs → RelL K m N G ys ws → RelL K m N G (xs ++ ys) (vs ++ ws)
  | _, _, _, _, .nil, q => q
  | _, _, _, _, .cons a r, q => .cons a (RelL.append r q)
theorem RelL.get : ∀ {xs : List PV} {vs : List V} {i : Nat} {x : PV}, RelL K m N G xs vs → xs[i]? = some x → ∃ v, vs[i]? = some v ∧ Rel K m N G x v
  | _, _, _, _, .nil, e => by simp at e
  | _, _, 0, _, .cons a r, e => by
    simp at e
    subst e
    exact ⟨_, rfl, a⟩
  | _, _, i + 1, _, .cons a r, e => by
    obtain ⟨v, h1, h2⟩ := RelL.get (i := i) r (by simpa using e)
    exact ⟨v, by simpa using h1, h2⟩
theorem RelL.take : ∀ {xs : List PV} {vs : List V} (n : Nat), RelL K m N G xs vs → RelL K m N G (xs.take n) (vs.take n)
  | _, _, 0, _ => .nil
  | _, _, _ + 1, .nil => .nil
  | _, _, n + 1, .cons a r => .cons a (RelL.take n r)
theorem RelL.drop : ∀ {xs : List PV} {vs : List V} (n : Nat), RelL K m N G xs vs → RelL K m N G (xs.drop n) (vs.drop n)
  | _, _, 0, r => r
  | _, _, _ + 1, .nil => .nil
  | _, _, n + 1, .cons a r => RelL.drop n r
theorem RelL.set {x : PV} {v : V} (q : Rel K m N G x v) : ∀ {xs : List PV} {vs : List V} (i : Nat), RelL K m N G xs vs → RelL K m N G (xs.set i x) (vs.set i v)
  | _, _, _, .nil => .nil
  | _, _, 0, .cons _ r => .cons q r
  | _, _, i + 1, .cons a r => .cons a (RelL.set q i r)
/-! ### the store grows, an object changes -/
def mx (m : Nat → Addr) (N : Nat) (p : Addr) : Nat → Addr := fun n => if n = N then p else m n
theorem mx_new {p : Addr} : mx m N p N = p := if_pos rfl
theorem mx_old {p : Addr} {n : Nat} (h : n < N) : mx m N p n = m n := if_neg (Nat.ne_of_lt h)
theorem mx_ex {p : Addr} : Ex m (mx m N p) N := fun _ hn => mx_old hn
theorem HR.nn (R : HR K CT m G H h) {i : Nat} {o : PO} (e : h[i]? = some o) (k : nk o = true) : H (m i) ≠ none := by
  have q := R.obj i o e
  cases o with
  | lst xs => obtain ⟨vs, q, _⟩ := q; rw [q]; simp
  | frz xs => cases k
  | dic xs => obtain ⟨vs, q, _⟩ := q; rw [q]; simp
  | ins c fs => obtain ⟨C, dx, gs, _, q, _⟩ := q; rw [q]; simp
  | exn c fs => cases k
  | lam => cases k
theorem HR.nt (R : HR K CT m G H h) {i : Nat} {o : PO} (e : h[i]? = some o) (k : nk o = true) {ps : Array Value} : H (m i) ≠ some (.tbl ps) := by
  have q := R.obj i o e
  cases o with
  | lst xs => obtain ⟨vs, q, _⟩ := q; rw [q]; simp
  | frz xs => cases k
  | dic xs => obtain ⟨vs, q, _⟩ := q; rw [q]; simp
  | ins c fs => obtain ⟨C, dx, gs, _, q, _⟩ := q; rw [q]; simp
  | exn c fs => cases k
  | lam => cases k
theorem getElem?_app {h : PH} {u o : PO} {i : Nat} (e : (h ++ [u])[i]? = some o) : (i < h.length ∧ h[i]? = some o) ∨ (i = h.length ∧ o = u) := by
  by_cases hl : i < h.length
  · rw [List.getElem?_append_left hl] at e
    exact .inl ⟨hl, e⟩
  · have hge : h.length ≤ i := Nat.le_of_not_lt hl
    rw [List.getElem?_append_right hge] at e
    have hz : i - h.length = 0 := by
      cases q : i - h.length with
      | zero => rfl
      | succ k => rw [q] at e; simp at e
    rw [hz] at e
    exact .inr ⟨by omega, by simpa using e.symm⟩
/-- an object of the store lies where a heap that agrees at it lies -/
theorem OR.keep {a : Addr} {o : PO} (q : OR K CT m N G H a o) (e : Ex m m' N) (l : N ≤ N') (t : Sub G G') (k : nk o = true → H' a = H a) : OR K CT m' N' G' H' a o := by
  cases o with
  | lst xs => obtain ⟨vs, q, r⟩ := q; exact ⟨vs, (k rfl).trans q, r.mono e l t⟩
  | frz xs =>
    obtain ⟨vs, q, r⟩ := q
    refine ⟨vs, ?_, r.mono e l t⟩
    rcases q with ⟨o, q⟩ | q
    · exact .inl ⟨o, t _ _ q⟩
    · exact .inr q
  | dic kvs => obtain ⟨vs, q, r⟩ := q; exact ⟨vs, (k rfl).trans q, r.mono e l t⟩
  | ins c fs => obtain ⟨C, dx, gs, ct, q, r⟩ := q; exact ⟨C, dx, gs, ct, (k rfl).trans q, r.mono e l t⟩
  | exn c fs => obtain ⟨C, d, ct, q, r⟩ := q; exact ⟨C, d, ct, t _ _ q, r.mono e l t⟩
  | lam => trivial
/-- a new object p; H' is H with p, and nothing else that matters -/
theorem HR.new (R : HR K CT m G H h) {p : Addr} {o : PO} (hp : H p = none) (keep : ∀ b, H b ≠ none → H' b = H b) (q : OR K CT (mx m h.length p) (h.length + 1) G H' p o) (ko : nk o = true) : HR K CT (mx m h.length p) G H' (h ++ [o]) := by
  have gp : G p = none := by
    cases e : G p with
    | none => rfl
    | some u => rw [R.sub p u e] at hp; cases hp
  refine ⟨fun i u e => ?_, fun i j oi oj ei ej ne ki kj => ?_, fun b u e => ?_, fun i u e k => ?_, R.xt.keep mx_ex (by simp) fun p ps e => (keep p (by rw [e]; simp)).trans e⟩
  · rw [List.length_append]
    rcases getElem?_app e with ⟨hl, e'⟩ | ⟨rfl, rfl⟩
    · rw [mx_old hl]
      exact (R.obj i u e').keep mx_ex (Nat.le_succ _) Sub.refl fun k => keep _ (R.nn e' k)
    · rw [mx_new]
      exact q
  · rcases getElem?_app ei with ⟨hi, ei'⟩ | ⟨rfl, rfl⟩ <;> rcases getElem?_app ej with ⟨hj, ej'⟩ | ⟨rfl, rfl⟩
    · rw [mx_old hi, mx_old hj]
      exact R.inj i j oi oj ei' ej' ne ki kj
    · rw [mx_old hi, mx_new]
      intro z
      exact R.nn ei' ki (by rw [z]; exact hp)
    · rw [mx_old hj, mx_new]
      intro z
      exact R.nn ej' kj (by rw [← z]; exact hp)
    · exact absurd rfl ne
  · have e' := R.sub b u e
    rw [keep b (by rw [e']; simp)]
    exact e'
  · rcases getElem?_app e with ⟨hl, e'⟩ | ⟨rfl, rfl⟩
    · rw [mx_old hl]
      exact R.dj i u e' k
    · rw [mx_new]
      exact gp
theorem keep_upd {p : Addr} {u : HO} (hp : H p = none) : ∀ b, H b ≠ none → upd H p u b = H b := fun b hb => upd_ne fun z => hb (by rw [z]; exact hp)
/-- a new tuple -/
theorem HR.newT (R : HR K CT m G H h) {p : Addr} {u : HO} (hp : H p = none) (hu : ∀ ps, u ≠ .tbl ps := by intro ps z; cases z) : HR K CT m (upd G p u) (upd H p u) h ∧ Sub G (upd G p u) := by
  have gp : G p = none := by
    cases e : G p with
    | none => rfl
    | some u => rw [R.sub p u e] at hp; cases hp
  have sg : Sub G (upd G p u) := fun b o e => by
    rw [upd_ne (fun z => by rw [z, gp] at e; cases e)]
    exact e
  refine ⟨⟨fun i o e => (R.obj i o e).keep Ex.refl (Nat.le_refl _) sg fun k => keep_upd hp _ (R.nn e k), R.inj, fun b o e => ?_, fun i o e k => ?_, R.xt.grow sg (fun q ps e => ?_) fun b ps e => ?_⟩, sg⟩
  · by_cases hb : b = p
    · subst hb
      rw [upd_same] at e ⊢
      exact e
    · rw [upd_ne hb] at e ⊢
      exact R.sub b o e
  · rw [upd_ne (fun z => R.nn e k (by rw [z]; exact hp))]
    exact R.dj i o e k
  · have ne : q ≠ p := fun z => by
      rw [z, hp] at e
      cases e
    rw [upd_ne ne, upd_ne ne]
    exact ⟨e, rfl⟩
  · by_cases hb : b = p
    · rw [hb, upd_same] at e
      exact hu ps (Option.some.inj e)
    · rw [upd_ne hb] at e
      exact R.xt.gt b ps e
/-- an object changes -/
theorem HR.put (R : HR K CT m G H h) {n : Nat} {o o' : PO} {u : HO} (e : h[n]? = some o) (k : nk o = true) (k' : nk o' = true) (q : ∀ H', H' (m n) = some u → OR K CT m h.length G H' (m n) o') : HR K CT m G (upd H (m n) u) (h.set n o') := by
  have hn : n < h.length := (List.getElem?_eq_some_iff.mp e).1
  have get : ∀ {i : Nat} {w : PO}, (h.set n o')[i]? = some w → (i = n ∧ w = o') ∨ (i ≠ n ∧ h[i]? = some w) := fun {i w} z => by
    by_cases hi : i = n
    · subst hi
      rw [List.getElem?_set_self hn] at z
      exact .inl ⟨rfl, by simpa using z.symm⟩
    · rw [List.getElem?_set_ne (fun z => hi z.symm)] at z
      exact .inr ⟨hi, z⟩
  have gn := R.dj n o e k
  refine ⟨fun i w ei => ?_, fun i j oi oj ei ej ne ki kj => ?_, fun b w eb => ?_, fun i w ei ki => ?_, R.xt.keep Ex.refl (by simp) fun p ps ep => (upd_ne fun z => ?_).trans ep⟩
  · rw [List.length_set]
    rcases get ei with ⟨rfl, rfl⟩ | ⟨hi, ei'⟩
    · exact q _ upd_same
    · exact (R.obj i w ei').keep Ex.refl (Nat.le_refl _) Sub.refl fun kw => upd_ne (R.inj i n w o ei' e hi kw k)
  · rcases get ei with ⟨rfl, rfl⟩ | ⟨hi, ei'⟩ <;> rcases get ej with ⟨rfl, rfl⟩ | ⟨hj, ej'⟩
    · exact absurd rfl ne
    · exact R.inj _ _ _ _ e ej' ne k kj
    · exact R.inj _ _ _ _ ei' e ne ki k
    · exact R.inj _ _ _ _ ei' ej' ne ki kj
  · rw [upd_ne (fun z => by rw [z, gn] at eb; cases eb)]
    exact R.sub b w eb
  · rcases get ei with ⟨rfl, rfl⟩ | ⟨hi, ei'⟩
    · exact gn
    · exact R.dj i w ei' ki
  · rw [z] at ep
    exact R.nt e k ep
end
end Mi

set_option Elab.async false
set_option linter.all false
set_option maxRecDepth 100000
/-! Mi4: the judgements, and the operators. -/
namespace Mi
open PySem L2
/-! ### what a result asks -/
/-- an exception: its class, its dict -/
def XR (K : PySem.W.Frag) (CT : Cts) (m : Nat → Addr) (N : Nat) (G : Hp) (x : PX) (cls : Value) (d : Option Addr) : Prop :=
  ∃ C, CT.exc x.cls C ∧ cls = .ref C ∧ ExF K m N G x.fs d
def Post {α β : Type} (K : PySem.W.Frag) (CT : Cts) (rel : (Nat → Addr) → Nat → Hp → α → β → Prop) (W : WX) (σ : St) (m : Nat → Addr) (G : Hp) (N : Nat) (Q : β → Hp → Prop) : R α → Prop
  | .ok a h' => ∀ m' G' H' b, Ex m m' N → Sub G G' → HR K CT m' G' H' h' → rel m' h'.length G' a b → Q b H'
  | .exc x h' => ∀ m' G' H' cls d, Ex m m' N → Sub G G' → HR K CT m' G' H' h' → XR K CT m' h'.length G' x cls d → W cls d σ H'
  | .bad => False
abbrev relB (_ : Nat → Addr) (_ : Nat) (_ : Hp) : Bool → Bool → Prop := fun a b => a = b
abbrev relO (_ : Nat → Addr) (_ : Nat) (_ : Hp) : Option Int → Option Int → Prop := fun a b => a = b
abbrev relU (_ : Nat → Addr) (_ : Nat) (_ : Hp) : Unit → Unit → Prop := fun _ _ => True
section
variable {K : PySem.W.Frag} {CT : Cts} {m m' m1 : Nat → Addr} {N N' : Nat} {G G' G1 H H' H1 : Hp} {h h' h1 : PH} {ρ ρ' : Env} {σ : St} {W : WX}
theorem SR.set {x : PV} {v : V} (s : SR K m N G ρ σ) (r : Rel K m N G x v) (i : Nat) : SR K m N G (ρ.set i (some x)) (σ.set i (some v)) := by
  refine ⟨by rw [List.length_set, List.length_set]; exact s.1, fun j y q => ?_⟩
  by_cases hj : i = j
  · subst hj
    by_cases hl : i < ρ.length
    · rw [List.getElem?_set_self hl] at q
      have e : x = y := by simpa using q
      subst e
      exact ⟨v, by rw [List.getElem?_set_self (by rw [← s.1]; exact hl)], r⟩
    · rw [List.getElem?_eq_none (by rw [List.length_set]; omega)] at q
      cases q
  · rw [List.getElem?_set_ne hj] at q ⊢
    exact s.2 j y q
theorem SR.none (s : SR K m N G ρ σ) (i : Nat) : SR K m N G (ρ.set i none) (σ.set i none) := by
  refine ⟨by rw [List.length_set, List.length_set]; exact s.1, fun j y q => ?_⟩
  by_cases hj : i = j
  · subst hj
    by_cases hl : i < ρ.length
    · rw [List.getElem?_set_self hl] at q
      cases q
    · rw [List.getElem?_eq_none (by rw [List.length_set]; omega)] at q
      cases q
  · rw [List.getElem?_set_ne hj] at q ⊢
    exact s.2 j y q
theorem Post.mono {α β : Type} {rel : (Nat → Addr) → Nat → Hp → α → β → Prop} {Q Q' : β → Hp → Prop} {r : R α} (p : Post K CT rel W σ m G N Q r) (q : ∀ b H, Q b H → Q' b H) : Post K CT rel W σ m G N Q' r := by
  cases r with
  | ok a h' => exact fun m' G' H' b e1 e2 e3 e4 => q _ _ (p m' G' H' b e1 e2 e3 e4)
  | exc x h' => exact p
  | bad => exact p
/-- later starts ask no more -/
theorem Post.later {α β : Type} {rel : (Nat → Addr) → Nat → Hp → α → β → Prop} {Q : β → Hp → Prop} {r : R α} (p : Post K CT rel W σ m G N Q r) (e : Ex m m1 N) (l : N ≤ N') (t : Sub G G1) : Post K CT rel W σ m1 G1 N' Q r := by
  cases r with
  | ok a h' => exact fun m' G' H' b e1 e2 e3 e4 => p m' G' H' b (e.trans e1 l) (t.trans e2) e3 e4
  | exc x h' => exact fun m' G' H' cls d e1 e2 e3 e4 => p m' G' H' cls d (e.trans e1 l) (t.trans e2) e3 e4
  | bad => exact p
theorem Post.bind {α β γ δ : Type} {rel1 : (Nat → Addr) → Nat → Hp → α → β → Prop} {rel2 : (Nat → Addr) → Nat → Hp → γ → δ → Prop} {Q : δ → Hp → Prop} {r : R α} {f : α → PH → R γ} (hg : Gro h r)
    (p : Post K CT rel2 W σ m G h.length Q (r.bind f)) :
    Post K CT rel1 W σ m G h.length (fun b H1 => ∃ a h1 m1 G1, Ex m m1 h.length ∧ Sub G G1 ∧ HR K CT m1 G1 H1 h1 ∧ rel1 m1 h1.length G1 a b ∧ h.length ≤ h1.length ∧ Post K CT rel2 W σ m1 G1 h1.length Q (f a h1)) r := by
  cases r with
  | ok a h' => exact fun m' G' H' b e1 e2 e3 e4 => ⟨a, h', m', G', e1, e2, e3, e4, hg, Post.later (r := f a h') p e1 hg e2⟩
  | exc x h' => exact p
  | bad => exact p
end
/-! ### judgements -/
section
variable (K : PySem.W.Frag) (CT : Cts) (cl : Cl) (W : WX)
def tE (c : E) : TE := fun σ H Q => ∃ m G h ρ, HR K CT m G H h ∧ SR K m h.length G ρ σ ∧ Post K CT (Rel K) W σ m G h.length Q (ev cl c ρ h)
def tA (c : List E) : TA := fun σ H Q => ∃ m G h ρ, HR K CT m G H h ∧ SR K m h.length G ρ σ ∧ Post K CT (RelL K) W σ m G h.length Q (evs cl c ρ h)
def tT (c : E) : TT := fun σ H Q => ∃ m G h ρ, HR K CT m G H h ∧ SR K m h.length G ρ σ ∧ Post K CT relB W σ m G h.length Q (tst cl c ρ h)
def tO (c : Option E) : TO := fun σ H Q => ∃ m G h ρ, HR K CT m G H h ∧ SR K m h.length G ρ σ ∧ Post K CT relO W σ m G h.length Q (evo cl c ρ h)
end
theorem PEimp {X : Cx} {e : Expr} {t t' : TE} (p : PE X e t) (i : ∀ σ H Q, t' σ H Q → t σ H Q) : PE X e t' := ⟨fun pins s σ H Q I h => p.run pins s σ H Q I (i σ H Q h)⟩
theorem PTimp {X : Cx} {e : Expr} {t t' : TT} (p : PT X e t) (i : ∀ σ H Q, t' σ H Q → t σ H Q) : PT X e t' := ⟨fun pins s σ H Q I h => p.run pins s σ H Q I (i σ H Q h)⟩
theorem PAimp {X : Cx} {e : List Expr} {t t' : TA} (p : PA X e t) (i : ∀ σ H Q, t' σ H Q → t σ H Q) : PA X e t' := ⟨fun pos pins s σ H Q I h => p.run pos pins s σ H Q I (i σ H Q h)⟩
theorem PSimp {X : Cx} {e : Stmt} {t t' : TS} (p : PS X e t) (i : ∀ D σ H, t' D σ H → t D σ H) : PS X e t' := ⟨fun pins s σ H D I h => p.run pins s σ H D I (i D σ H h)⟩
section
variable {K : PySem.W.Frag} {CT : Cts} {cl : Cl} {W : WX} {m : Nat → Addr} {N : Nat} {G H : Hp} {h : PH} {ρ : Env} {σ : St}
/-- a sub-expression first -/
theorem tE_first {c : E} {γ δ : Type} {rel2 : (Nat → Addr) → Nat → Hp → γ → δ → Prop} {Q : δ → Hp → Prop} {Q1 : VK} {f : PV → PH → R γ} (hc : GroC cl) (R : HR K CT m G H h) (s : SR K m h.length G ρ σ)
    (p : Post K CT rel2 W σ m G h.length Q ((ev cl c ρ h).bind f))
    (k : ∀ x v h1 m1 G1 H1, Ex m m1 h.length → Sub G G1 → h.length ≤ h1.length → HR K CT m1 G1 H1 h1 → SR K m1 h1.length G1 ρ σ → Rel K m1 h1.length G1 x v → Post K CT rel2 W σ m1 G1 h1.length Q (f x h1) → Q1 v H1) : tE K CT cl W c σ H Q1 :=
  ⟨m, G, h, ρ, R, s, (Post.bind (ev_gro hc c ρ h) p).mono fun v H1 ⟨x, h1, m1, G1, e1, e2, e3, e4, e5, e6⟩ => k x v h1 m1 G1 H1 e1 e2 e5 e3 (s.mono e1 e5 e2) e4 e6⟩
theorem tA_first {c : List E} {γ δ : Type} {rel2 : (Nat → Addr) → Nat → Hp → γ → δ → Prop} {Q : δ → Hp → Prop} {Q1 : List V → Hp → Prop} {f : List PV → PH → R γ} (hc : GroC cl) (R : HR K CT m G H h) (s : SR K m h.length G ρ σ)
    (p : Post K CT rel2 W σ m G h.length Q ((evs cl c ρ h).bind f))
    (k : ∀ x v h1 m1 G1 H1, Ex m m1 h.length → Sub G G1 → h.length ≤ h1.length → HR K CT m1 G1 H1 h1 → SR K m1 h1.length G1 ρ σ → RelL K m1 h1.length G1 x v → Post K CT rel2 W σ m1 G1 h1.length Q (f x h1) → Q1 v H1) : tA K CT cl W c σ H Q1 :=
  ⟨m, G, h, ρ, R, s, (Post.bind (evs_gro hc c ρ h) p).mono fun v H1 ⟨x, h1, m1, G1, e1, e2, e3, e4, e5, e6⟩ => k x v h1 m1 G1 H1 e1 e2 e5 e3 (s.mono e1 e5 e2) e4 e6⟩
theorem tT_first {c : E} {γ δ : Type} {rel2 : (Nat → Addr) → Nat → Hp → γ → δ → Prop} {Q : δ → Hp → Prop} {Q1 : Bool → Hp → Prop} {f : Bool → PH → R γ} (hc : GroC cl) (R : HR K CT m G H h) (s : SR K m h.length G ρ σ)
    (p : Post K CT rel2 W σ m G h.length Q ((tst cl c ρ h).bind f))
    (k : ∀ b h1 m1 G1 H1, Ex m m1 h.length → Sub G G1 → h.length ≤ h1.length → HR K CT m1 G1 H1 h1 → SR K m1 h1.length G1 ρ σ → Post K CT rel2 W σ m1 G1 h1.length Q (f b h1) → Q1 b H1) : tT K CT cl W c σ H Q1 :=
  ⟨m, G, h, ρ, R, s, (Post.bind (tst_gro hc c ρ h) p).mono fun v H1 ⟨x, h1, m1, G1, e1, e2, e3, e4, e5, e6⟩ => by
    have e : x = v := e4
    subst e
    exact k x h1 m1 G1 H1 e1 e2 e5 e3 (s.mono e1 e5 e2) e6⟩
theorem tO_first {c : Option E} {γ δ : Type} {rel2 : (Nat → Addr) → Nat → Hp → γ → δ → Prop} {Q : δ → Hp → Prop} {Q1 : Option Int → Hp → Prop} {f : Option Int → PH → R γ} (hc : GroC cl) (R : HR K CT m G H h) (s : SR K m h.length G ρ σ)
    (p : Post K CT rel2 W σ m G h.length Q ((evo cl c ρ h).bind f))
    (k : ∀ b h1 m1 G1 H1, Ex m m1 h.length → Sub G G1 → h.length ≤ h1.length → HR K CT m1 G1 H1 h1 → SR K m1 h1.length G1 ρ σ → Post K CT rel2 W σ m1 G1 h1.length Q (f b h1) → Q1 b H1) : tO K CT cl W c σ H Q1 :=
  ⟨m, G, h, ρ, R, s, (Post.bind (evo_gro hc c ρ h) p).mono fun v H1 ⟨x, h1, m1, G1, e1, e2, e3, e4, e5, e6⟩ => by
    have e : x = v := e4
    subst e
    exact k x h1 m1 G1 H1 e1 e2 e5 e3 (s.mono e1 e5 e2) e6⟩
end
/-! ### names, constants -/
section
variable {X : Cx} {CT : Cts} {cl : Cl} {W : WX}
theorem I_var (i : Nat) {x : Str} {pos : Pos} (hN : X.N[i]? = some x) (hv : Vis X.env.scope x) (hd : (x == ("__debug__" : Str)) = false) (hcd : (x == ("__classdict__" : Str)) = false) : PE X (.Name x pos) (tE X.K CT cl W (.v i)) :=
  PEimp (pe_var hN hv hd hcd) fun σ H Q ⟨m, G, h, ρ, R, s, p⟩ => by
    simp only [ev] at p
    split at p
    · rename_i v e
      obtain ⟨u, hu, r⟩ := s.2 i v e
      exact ⟨u, hu, p m G H u Ex.refl Sub.refl R r⟩
    · exact p.elim
/-- a constant that needs no object -/
theorem I_k {e : Expr} {c : PV} {v : V} (p : PE X e (tC v)) (r : ∀ m N G, Rel X.K m N G c v) : PE X e (tE X.K CT cl W (.k c)) :=
  PEimp p fun σ H Q ⟨m, G, h, ρ, R, s, q⟩ => by
    simp only [ev] at q
    exact q m G H v Ex.refl Sub.refl R (r _ _ _)
theorem I_int {i j pos} : PE X (.Constant (.int i) j pos) (tE X.K CT cl W (.k (.int i))) := I_k pe_int fun _ _ _ => .int i
theorem I_bl {i j pos} : PE X (.Constant (.bool i) j pos) (tE X.K CT cl W (.k (.bl i))) := I_k pe_bl fun _ _ _ => .bl i
theorem I_non {j pos} : PE X (.Constant .none j pos) (tE X.K CT cl W (.k .non)) := I_k pe_non fun _ _ _ => .non
theorem I_str {x : Str} {s : List Char} {j pos} (e : x = S2 s) : PE X (.Constant (.str x) j pos) (tE X.K CT cl W (.k (.str s))) := by
  subst e
  exact I_k pe_str fun _ _ _ => .str s
/-- a constant of the module that needs no object -/
theorem I_gint {x : Str} {i : Int} {u : Value} {pos : Pos} (hg : Gl X x) (hm : X.mg x = some u) (hu : ∃ t, u = .int i t) (hd : (x == ("__debug__" : Str)) = false) : PE X (.Name x pos) (tE X.K CT cl W (.k (.int i))) :=
  I_k (pe_glob (v := .int i) hg hm hu hd) fun _ _ _ => .int i
theorem I_gstr {x z : Str} {s : List Char} {u : Value} {pos : Pos} (e : z = S2 s) (hg : Gl X x) (hm : X.mg x = some u) (hu : ∃ t, u = .str z t) (hd : (x == ("__debug__" : Str)) = false) : PE X (.Name x pos) (tE X.K CT cl W (.k (.str s))) := by
  subst e
  exact I_k (pe_glob (v := .str (S2 s)) hg hm hu hd) fun _ _ _ => .str s
end
end Mi

set_option Elab.async false
set_option linter.all false
set_option maxRecDepth 100000
/-! Mi5: the operators by values. -/
namespace Mi
open PySem L2
theorem szl_eq : szl = sizeLine := by rw [sizeLine_eq]; rfl
section
variable {K : PySem.W.Frag} {CT : Cts} {W : WX} {m : Nat → Addr} {N : Nat} {G H : Hp} {h : PH} {σ : St}
/-! ### inversions -/
theorem Rel.int_inv {i : Int} {v : V} (r : Rel K m N G (.int i) v) : v = .int i := by cases r; rfl
theorem Rel.bl_inv {b : Bool} {v : V} (r : Rel K m N G (.bl b) v) : v = .bl b := by cases r; rfl
theorem Rel.non_inv {v : V} (r : Rel K m N G .non v) : v = .non := by cases r; rfl
theorem Rel.str_inv {s : List Char} {v : V} (r : Rel K m N G (.str s) v) : v = .str (S2 s) := by cases r; rfl
theorem Rel.ref_inv {n : Nat} {v : V} (r : Rel K m N G (.ref n) v) : v = .ref (m n) ∧ n < N := by cases r with | ref h => exact ⟨rfl, h⟩
theorem Rel.tup_inv {xs : List PV} {v : V} (r : Rel K m N G (.tup xs) v) : ∃ a vs, v = .ref a ∧ SqT K G a vs ∧ RelL K m N G xs vs := by cases r with | tup h q => exact ⟨_, _, rfl, h, q⟩
theorem HR.lst (R : HR K CT m G H h) {n : Nat} {xs : List PV} (e : h[n]? = some (.lst xs)) : ∃ vs, H (m n) = some (.lst vs) ∧ RelL K m h.length G xs vs := R.obj n _ e
theorem HR.frz (R : HR K CT m G H h) {n : Nat} {xs : List PV} (e : h[n]? = some (.frz xs)) : ∃ vs, SqL K H (m n) vs ∧ RelL K m h.length G xs vs := by
  obtain ⟨vs, q, r⟩ := R.obj n _ e
  refine ⟨vs, ?_, r⟩
  rcases q with ⟨o, q⟩ | q
  · exact .inl (.inr ⟨o, R.sub _ _ q⟩)
  · exact .inr q
theorem HR.dic (R : HR K CT m G H h) {n : Nat} {xs : List (PV × PV)} (e : h[n]? = some (.dic xs)) : ∃ ks, H (m n) = some (.dK ks) ∧ RelD K m h.length G xs ks := R.obj n _ e
theorem HR.ins (R : HR K CT m G H h) {n : Nat} {c : String} {fs : List (String × PV)} (e : h[n]? = some (.ins c fs)) : ∃ C dx gs, CT.ins c C ∧ H (m n) = some (.ins C dx gs) ∧ RelF K m h.length G fs gs := R.obj n _ e
theorem HR.lt {n : Nat} {o : PO} (e : h[n]? = some o) : n < h.length := (List.getElem?_eq_some_iff.mp e).1
/-- a new list of the store -/
theorem Post.newL {Q : VK} (p : Post K CT (Rel K) W σ m G h.length Q (.ok (.ref h.length) (h ++ [.lst xs]))) (R : HR K CT m G H h) {vs : List V} (r : RelL K m h.length G xs vs) {a : Addr} (ha : H a = none) : Q (.ref a) (upd H a (.lst vs)) := by
  have R' := R.new (o := .lst xs) ha (keep_upd ha) ⟨vs, upd_same, r.mono mx_ex (Nat.le_succ _) Sub.refl⟩ rfl
  have q : Rel K (mx m h.length a) (h ++ [PO.lst xs]).length G (.ref h.length) (.ref (mx m h.length a h.length)) := .ref (by rw [List.length_append]; simp)
  rw [mx_new] at q
  exact p _ G _ _ mx_ex Sub.refl R' q
/-- a new tuple -/
theorem Post.newT {Q : VK} {xs : List PV} (p : Post K CT (Rel K) W σ m G h.length Q (.ok (.tup xs) h)) (R : HR K CT m G H h) {vs : List V} (r : RelL K m h.length G xs vs) {a : Addr} (ha : H a = none) : Q (.ref a) (upd H a (.tup vs)) := by
  obtain ⟨R', sg⟩ := R.newT (u := .tup vs) ha
  exact p m _ _ _ Ex.refl sg R' (.tup (.inl (.inl upd_same)) (r.mono Ex.refl (Nat.le_refl _) sg))
theorem Post.now {α β : Type} {rel : (Nat → Addr) → Nat → Hp → α → β → Prop} {Q : β → Hp → Prop} {a : α} {b : β} (p : Post K CT rel W σ m G h.length Q (.ok a h)) (R : HR K CT m G H h) (r : rel m h.length G a b) : Q b H := p m G H b Ex.refl Sub.refl R r
end
/-! ### a + b .. -/
def rB (K : PySem.W.Frag) (CT : Cts) (W : WX) (o : BOp) : R2 := fun x y H Q => ∃ m G h px py σ, HR K CT m G H h ∧ Rel K m h.length G px x ∧ Rel K m h.length G py y ∧ Post K CT (Rel K) W σ m G h.length Q (bopV o px py h)
theorem flat_rep {α : Type} (x : Array α) : ∀ (n : Nat) (acc : Array α), (List.replicate n x).foldl (· ++ ·) acc = acc ++ ((List.replicate n x.toList).flatten).toArray
  | 0, acc => by simp
  | n + 1, acc => by
    rw [List.replicate_succ, List.foldl_cons, flat_rep x n, List.replicate_succ, List.flatten_cons]
    apply Array.ext'
    simp
theorem mul_text (a : List Nat) (k : Int) : Txt.mul ⟨a.toArray⟩ k = ⟨((List.replicate k.toNat a).flatten).toArray⟩ := by
  unfold Txt.mul
  by_cases h1 : k < 1
  · rw [if_pos h1, show k.toNat = 0 by omega]
    rfl
  · rw [if_neg h1]
    by_cases h2 : (k == 1 || (Str.mk a.toArray).length == 0) = true
    · rw [if_pos h2]
      rw [Bool.or_eq_true, beq_iff_eq, beq_iff_eq] at h2
      rcases h2 with h2 | h2
      · rw [show k.toNat = 1 by omega]
        simp
      · have e : a = [] := by
          have : a.toArray.size = 0 := h2
          simpa using this
        subst e
        have z : ∀ n : Nat, (List.replicate n ([] : List Nat)).flatten = [] := fun n => by
          induction n with
          | zero => rfl
          | succ n ih => rw [List.replicate_succ, List.flatten_cons, ih]; rfl
        rw [z]
    · rw [if_neg h2, flat_rep, Array.empty_append]
section
variable {X : Cx} {CT : Cts} {W : WX}
theorem op_strmul : OpR X (binaryOp .Mult) (fun x y H Q => ∃ (a : List Nat) (k : Int), x = .str ⟨a.toArray⟩ ∧ y = .int k ∧ (-16777216 ≤ k ∧ k ≤ 16777216 ∧ a.length * k.toNat ≤ szl) ∧ Q (.str ⟨((List.replicate k.toNat a).flatten).toArray⟩) H) := by
  intro pins s σ H x y v u Q I rx ry h
  obtain ⟨a, k, rfl, rfl, ⟨h1, h2, h3⟩, q⟩ := h
  obtain ⟨t, rfl⟩ := rx
  obtain ⟨t', rfl⟩ := ry
  have hl : (Str.mk a.toArray).length = a.length := by simp [Str.length]
  refine SB.mul ⟨by rw [Bool.or_eq_false_iff, decide_eq_false_iff_not, decide_eq_false_iff_not]; omega, fun g1 _ => ?_, fun g1 _ => ?_⟩ fun t'' k'' => ?_
  · rw [hl]
    have h3' : a.length * k.toNat ≤ 16777216 := h3
    have hz : (a.length : Int) * k ≤ 16777216 := by
      have q : ((a.length * k.toNat : Nat) : Int) ≤ 16777216 := Int.ofNat_le.mpr h3'
      rw [Int.natCast_mul, Int.toNat_of_nonneg (by omega)] at q
      exact q
    have hp : 0 < k := by omega
    intro hh
    have h5 : ((2 : Int) ^ 63 - 1) / k < a.length := hh
    have h6 := Int.lt_mul_of_ediv_lt hp h5
    omega
  · rw [hl]
    unfold Builtin.Str.tooLong
    rw [decide_eq_false_iff_not]
    rw [← szl_eq]
    omega
  · rw [mul_text]
    exact ⟨.str _, H, I.tok _, ⟨_, rfl⟩, q⟩
end
end Mi

set_option Elab.async false
set_option linter.all false
set_option maxRecDepth 100000
/-! Mi5b: a dict and a text are never equal. -/
namespace Mi
open PySem PySem.Spec PyProof.Rows L2
theorem dict_no_str (d : Addr) (es : Array DictEntry) (ep : Nat) (dd : Option Addr) (sl : Array (Option Value)) (b : Str) (u : Tok) :
    Meets (Builtin.«dict.__eq__» ⟨[.ref d, .str b u], []⟩) (fun _ R s => s.heap.get? d = some { cls := .type "dict", dict := dd, data := .dict es ep, slots := sl } ∧ R (.ok (.ret .notImplemented)) s) :=
  .of_wp fun prog w A R s h => by
    obtain ⟨hp, g, dr, tk, os⟩ := s
    obtain ⟨hd, h⟩ := h
    have f1 := PySem.F.sub_str_dict
    wp_walk using wpAny_load hd
    exact ⟨_, rfl, h⟩
theorem str_no_dict (b : Str) (u : Tok) (d : Addr) (es : Array DictEntry) (ep : Nat) (dd : Option Addr) (sl : Array (Option Value)) :
    Meets (Builtin.«str.__eq__» ⟨[.str b u, .ref d], []⟩) (fun _ R s => s.heap.get? d = some { cls := .type "dict", dict := dd, data := .dict es ep, slots := sl } ∧ R (.ok (.ret .notImplemented)) s) :=
  .of_wp fun prog w A R s h => by
    obtain ⟨hp, g, dr, tk, os⟩ := s
    obtain ⟨hd, h⟩ := h
    wp_walk using wpAny_load hd
    exact ⟨_, rfl, h⟩
theorem str_ne_dict (b : Str) (u : Tok) (d : Addr) (es : Array DictEntry) (ep : Nat) (dd : Option Addr) (sl : Array (Option Value)) :
    Meets (Builtin.«str.__ne__» ⟨[.str b u, .ref d], []⟩) (fun _ R s => s.heap.get? d = some { cls := .type "dict", dict := dd, data := .dict es ep, slots := sl } ∧ R (.ok (.ret .notImplemented)) s) :=
  .of_wp fun prog w A R s h => by
    obtain ⟨hp, g, dr, tk, os⟩ := s
    obtain ⟨hd, h⟩ := h
    wp_walk using wpAny_load hd
    exact ⟨_, rfl, h⟩
theorem dict_ne_str (d : Addr) (es : Array DictEntry) (ep : Nat) (dd : Option Addr) (sl : Array (Option Value)) (b : Str) (u : Tok) :
    Meets (Builtin.«dict.__ne__» ⟨[.ref d, .str b u], []⟩) (fun _ R s => s.heap.get? d = some { cls := .type "dict", dict := dd, data := .dict es ep, slots := sl } ∧ R (.ok (.ret .notImplemented)) s) :=
  .of_wp fun prog w A R s h => by
    obtain ⟨hp, g, dr, tk, os⟩ := s
    obtain ⟨hd, h⟩ := h
    have f1 := PySem.F.sub_str_dict
    wp_walk using wpAny_load hd
    exact ⟨_, rfl, h⟩
section
variable {X : Cx}
def rDS (K : PySem.W.Frag) (b : Bool) : R2 := fun x y H Q => ∃ a t, x = V.ref a ∧ y = V.str t ∧ ((∃ kvs, H a = some (.dK kvs)) ∨ (∃ xs, SqL K H a xs) ∨ ∃ xs, SqT K H a xs) ∧ Q (.bl b) H
theorem dict_obj {pins : List (Addr × Obj)} {σ : L2.St} {H : Hp} {s : Shared} {a : Addr} {kvs : List (Key × V)} (I : Inv X pins σ H s) (e : H a = some (.dK kvs)) : ∃ es ep dd sl, s.heap.get? a = some { cls := .type "dict", dict := dd, data := .dict es ep, slots := sl } := by
  obtain ⟨_, _, vs, _, o, es, ep, h1, h2, h3, _⟩ := I.hok a _ e
  obtain ⟨c, dd, dt, sl⟩ := o
  have e1 : c = .type "dict" := h2.1
  have e2 : dt = .dict es ep := h3
  subst e1 e2
  exact ⟨es, ep, dd, sl, h1⟩
theorem op_eq_ds (hu : X.A.units < cLine) : OpR X (compareOp .Eq) (rDS X.K false) := by
  rintro pins s σ H x y v u Q I rx ry ⟨a, t, rfl, rfl, h, q⟩
  cases rx
  obtain ⟨tk, rfl⟩ := ry
  rcases h with ⟨kvs, ea⟩ | ⟨xs, ea⟩ | ⟨xs, ea⟩
  · obtain ⟨es, ep, dd, sl, ho⟩ := dict_obj I ea
    exact SeqAt.rc_eq_decline_or (k := false) ⟨_, ho, rfl⟩ (typeIs_str s t tk) (by decide) PySem.F.sub_str_dict PySem.F.slot_dict_eq PySem.F.slot_str_eq_refl
      (fun _ hq => call_meets PySem.F.slot_dict_eq ⟨_, ho, rfl⟩ PySem.F.entry_dict_eq (PySem.F.args_dict_eq_2 _ _) (dict_no_str a es ep dd sl t tk) ⟨ho, hq⟩)
      (fun _ hq => call_meets PySem.F.slot_str_eq_refl (typeIs_str s t tk) PySem.F.entry_str_eq (PySem.F.args_str_eq_2 _ _) (str_no_dict t tk a es ep dd sl) ⟨ho, hq⟩)
      (fun _ hq => wpAny_of_eq (rfl : isSame (.ref a) (.str t tk) = pure false) hq) (.inr hu) ⟨.bl false, H, I, rfl, q⟩
  · obtain ⟨its, _, pl, _⟩ := I.list ea
    exact SeqAt.RcAt.list_str t tk pl.isList hu _ _ _ _ ⟨.bl false, H, I, rfl, q⟩
  · obtain ⟨its, _, pl, _⟩ := I.tuple ea
    exact SeqAt.RcAt.tuple_str t tk pl hu _ _ _ _ ⟨.bl false, H, I, rfl, q⟩
theorem op_ne_ds (hu : X.A.units < cLine) : OpR X (compareOp .NotEq) (rDS X.K true) := by
  rintro pins s σ H x y v u Q I rx ry ⟨a, t, rfl, rfl, h, q⟩
  cases rx
  obtain ⟨tk, rfl⟩ := ry
  rcases h with ⟨kvs, ea⟩ | ⟨xs, ea⟩ | ⟨xs, ea⟩
  · obtain ⟨es, ep, dd, sl, ho⟩ := dict_obj I ea
    exact SeqAt.rc_ne_decline_or (k := false) ⟨_, ho, rfl⟩ (typeIs_str s t tk) (by decide) PySem.F.sub_str_dict PySem.F.slot_dict_ne PySem.F.slot_str_ne_refl
      (fun _ hq => call_meets PySem.F.slot_dict_ne ⟨_, ho, rfl⟩ PySem.F.entry_dict_ne (PySem.F.args_dict_ne_2 _ _) (dict_ne_str a es ep dd sl t tk) ⟨ho, hq⟩)
      (fun _ hq => call_meets PySem.F.slot_str_ne_refl (typeIs_str s t tk) PySem.F.entry_str_ne (PySem.F.args_str_ne_2 _ _) (str_ne_dict t tk a es ep dd sl) ⟨ho, hq⟩)
      (fun _ hq => wpAny_of_eq (rfl : isSame (.ref a) (.str t tk) = pure false) hq) (.inr hu) ⟨.bl true, H, I, rfl, q⟩
  · obtain ⟨its, _, pl, _⟩ := I.list ea
    exact SeqAt.RcNeAt.list_str t tk pl.isList hu _ _ _ _ ⟨.bl true, H, I, rfl, q⟩
  · obtain ⟨its, _, pl, _⟩ := I.tuple ea
    exact SeqAt.RcNeAt.tuple_str t tk pl hu _ _ _ _ ⟨.bl true, H, I, rfl, q⟩
/-- two lists, or two tuples, one of them empty -/
def rEm (K : PySem.W.Frag) (f : Bool → Bool) : R2 := fun x y H Q => ∃ a b xs ys, x = V.ref a ∧ y = V.ref b ∧ ((SqL K H a xs ∧ SqL K H b ys) ∨ (SqT K H a xs ∧ SqT K H b ys)) ∧ (xs = [] ∨ ys = []) ∧ Q (.bl (f (xs.isEmpty && ys.isEmpty))) H
theorem em_size {xs : List V} {its : List Value} (r : Vals xs its) : its.toArray.size = xs.length := by
  have := r.length
  simpa using this.symm
theorem em_eq {xs ys : List V} (h : xs = [] ∨ ys = []) : (xs.length == ys.length) = (xs.isEmpty && ys.isEmpty) := by
  rcases h with rfl | rfl
  · cases ys <;> simp
  · cases xs <;> simp
theorem op_eq_em (hu : X.A.units < cLine) : OpR X (compareOp .Eq) (rEm X.K fun b => b) := by
  rintro pins s σ H x y v u Q I rx ry ⟨a, b, xs, ys, rfl, rfl, h, hz, q⟩
  cases rx
  cases ry
  rcases h with ⟨ha, hb⟩ | ⟨ha, hb⟩
  · obtain ⟨i1, r1, p1, _⟩ := I.list ha
    obtain ⟨i2, r2, p2, _⟩ := I.list hb
    have z1 := em_size r1
    have z2 := em_size r2
    by_cases hs : i1.toArray.size = i2.toArray.size
    · have e1 : i1.toArray.size = 0 := by
        rcases hz with rfl | rfl
        · simpa using z1
        · rw [hs]; simpa using z2
      have e2 : (xs.isEmpty && ys.isEmpty) = true := by
        rw [← em_eq hz, ← z1, ← z2, hs]
        exact beq_self_eq_true _
      refine SeqAt.RcAt.lists (e := fun _ => true) p1.isList p2.isList hs hu (fun j h1 => absurd h1 (by omega)) _ _ _ _ ⟨.bl _, H, I, rfl, ?_⟩
      rw [e1]
      rw [e2] at q
      exact q
    · have e2 : (xs.isEmpty && ys.isEmpty) = false := by
        rw [← em_eq hz, ← z1, ← z2]
        exact beq_eq_false_iff_ne.mpr hs
      refine SeqAt.RcAt.lists_lengths p1.isList p2.isList (by simpa using hs) hu _ _ _ _ ⟨.bl _, H, I, rfl, ?_⟩
      rw [e2] at q
      exact q
  · obtain ⟨i1, r1, p1, _⟩ := I.tuple ha
    obtain ⟨i2, r2, p2, _⟩ := I.tuple hb
    have z1 := em_size r1
    have z2 := em_size r2
    have e0 : min i1.toArray.size i2.toArray.size = 0 := by
      rcases hz with rfl | rfl
      · rw [z1]; simp
      · rw [z2]; simp
    refine SeqAt.RcAt.tuples (e := fun _ => true) p1 p2 hu (fun j h1 h2 => absurd e0 (by omega)) _ _ _ _ ⟨.bl _, H, I, rfl, ?_⟩
    rw [e0, z1, z2]
    rw [← em_eq hz] at q
    exact q
theorem op_ne_em (hu : X.A.units < cLine) : OpR X (compareOp .NotEq) (rEm X.K fun b => !b) := by
  rintro pins s σ H x y v u Q I rx ry ⟨a, b, xs, ys, rfl, rfl, h, hz, q⟩
  cases rx
  cases ry
  rcases h with ⟨ha, hb⟩ | ⟨ha, hb⟩
  · obtain ⟨i1, r1, p1, _⟩ := I.list ha
    obtain ⟨i2, r2, p2, _⟩ := I.list hb
    have z1 := em_size r1
    have z2 := em_size r2
    by_cases hs : i1.toArray.size = i2.toArray.size
    · have e1 : i1.toArray.size = 0 := by
        rcases hz with rfl | rfl
        · simpa using z1
        · rw [hs]; simpa using z2
      have e2 : (xs.isEmpty && ys.isEmpty) = true := by
        rw [← em_eq hz, ← z1, ← z2, hs]
        exact beq_self_eq_true _
      refine SeqAt.RcNeAt.lists (e := fun _ => true) p1.isList p2.isList hs hu (fun j h1 => absurd h1 (by omega)) _ _ _ _ ⟨.bl _, H, I, rfl, ?_⟩
      rw [e1]
      rw [e2] at q
      exact q
    · have e2 : (xs.isEmpty && ys.isEmpty) = false := by
        rw [← em_eq hz, ← z1, ← z2]
        exact beq_eq_false_iff_ne.mpr hs
      refine SeqAt.RcNeAt.lists_lengths p1.isList p2.isList (by simpa using hs) hu _ _ _ _ ⟨.bl _, H, I, rfl, ?_⟩
      rw [e2] at q
      exact q
  · obtain ⟨i1, r1, p1, _⟩ := I.tuple ha
    obtain ⟨i2, r2, p2, _⟩ := I.tuple hb
    have z1 := em_size r1
    have z2 := em_size r2
    have e0 : min i1.toArray.size i2.toArray.size = 0 := by
      rcases hz with rfl | rfl
      · rw [z1]; simp
      · rw [z2]; simp
    refine SeqAt.RcNeAt.tuples (e := fun _ => true) p1 p2 hu (fun j h1 h2 => absurd e0 (by omega)) _ _ _ _ ⟨.bl _, H, I, rfl, ?_⟩
    rw [e0, z1, z2]
    rw [← em_eq hz] at q
    exact q
end
end Mi

set_option Elab.async false
set_option linter.all false
set_option maxRecDepth 100000
/-! Mi6: texts, data, == and in. -/
namespace Mi
open PySem L2
/-! ### texts -/
theorem toNat_inj {a b : Char} (h : a.toNat = b.toNat) : a = b := Char.toNat_inj.mp h
theorem map_inj : ∀ {a b : List Char}, a.map Char.toNat = b.map Char.toNat → a = b
  | [], [], _ => rfl
  | [], _ :: _, h => by simp at h
  | _ :: _, [], h => by simp at h
  | x :: r, y :: t, h => by
    rw [List.map_cons, List.map_cons] at h
    injection h with h1 h2
    rw [toNat_inj h1, map_inj h2]
theorem S2_inj {a b : List Char} (h : S2 a = S2 b) : a = b := by
  have h1 : (a.map Char.toNat).toArray = (b.map Char.toNat).toArray := congrArg Str.cps h
  exact map_inj (by simpa using h1)
theorem S2_eq {a b : List Char} : (S2 a = S2 b) = (a = b) := propext ⟨S2_inj, fun h => by rw [h]⟩
theorem S2_len {a : List Char} : (S2 a).length = a.length := by simp [Str.length]
theorem S2_cps {a : List Char} : (S2 a).cps.toList = a.map Char.toNat := by simp
theorem S2_app {a b : List Char} : S2 a ++ S2 b = S2 (a ++ b) := by
  show Str.append _ _ = _
  unfold Str.append
  simp
theorem S2_ofString (s : String) : Str.ofString s = S2 s.toList := Str.ofString_eq_toList s
theorem ofString_inj {a b : String} (h : Str.ofString a = Str.ofString b) : a = b := by
  rw [S2_ofString, S2_ofString] at h
  exact String.toList_inj.mp (S2_inj h)
/-! ### data -/
mutual
def toPy : D → PyData
  | .non => .none
  | .bl b => .bool b
  | .int i => .int i
  | .str s => .str (S2 s)
  | .lst xs => .list (toPys xs)
  | .tup xs => .tuple (toPys xs)
def toPys : List D → List PyData
  | [] => []
  | x :: r => toPy x :: toPys r
end
theorem char_lt (c : Char) : c.toNat < 1114112 := by
  have h := c.valid
  have e : c.toNat = c.val.toNat := rfl
  simp only [UInt32.isValidChar, Nat.isValidChar] at h
  omega
mutual
theorem toPy_lay : ∀ d : D, (toPy d).canLay0 = true
  | .non => by simp [toPy, PyData.canLay0]
  | .bl b => by simp [toPy, PyData.canLay0]
  | .int i => by simp [toPy, PyData.canLay0]
  | .str s => by
    simp only [toPy, PyData.canLay0, PyData.strOk]
    rw [← Array.all_toList, List.all_eq_true]
    intro x hx
    have hx : x ∈ s.map Char.toNat := by simpa using hx
    obtain ⟨c, _, rfl⟩ := List.mem_map.mp hx
    exact decide_eq_true (char_lt c)
  | .lst xs => by simp only [toPy, PyData.canLay0]; exact toPys_lay xs
  | .tup xs => by simp only [toPy, PyData.canLay0]; exact toPys_lay xs
theorem toPys_lay : ∀ d : List D, PyData.canLayAll0 (toPys d) = true
  | [] => by simp [toPys, PyData.canLayAll0]
  | x :: r => by simp only [toPys, PyData.canLayAll0, toPy_lay x, toPys_lay r]; rfl
end
theorem str_beqS (a b : List Char) : ((S2 a == S2 b) : Bool) = (a == b) := by
  rw [Bool.eq_iff_iff, beq_iff_eq, beq_iff_eq, S2_eq]
mutual
theorem toPy_eqv : ∀ a b : D, PyData.eqv (toPy a) (toPy b) = D.eqv a b
  | .non, b => by cases b <;> simp [toPy, PyData.eqv, D.eqv]
  | .bl x, b => by cases b <;> simp [toPy, PyData.eqv, D.eqv]
  | .int x, b => by cases b <;> simp [toPy, PyData.eqv, D.eqv]
  | .str x, b => by
    cases b with
    | str y => simp only [toPy, PyData.eqv, D.eqv]; exact str_beqS x y
    | _ => simp [toPy, PyData.eqv, D.eqv]
  | .lst x, b => by
    cases b with
    | lst y => simp only [toPy, PyData.eqv, D.eqv]; exact toPys_eqv x y
    | _ => simp [toPy, PyData.eqv, D.eqv]
  | .tup x, b => by
    cases b with
    | tup y => simp only [toPy, PyData.eqv, D.eqv]; exact toPys_eqv x y
    | _ => simp [toPy, PyData.eqv, D.eqv]
theorem toPys_eqv : ∀ a b : List D, PyData.eqvAll (toPys a) (toPys b) = D.eqvs a b
  | [], [] => by simp [toPys, PyData.eqvAll, D.eqvs]
  | [], _ :: _ => by simp [toPys, PyData.eqvAll, D.eqvs]
  | _ :: _, [] => by simp [toPys, PyData.eqvAll, D.eqvs]
  | x :: r, y :: t => by simp only [toPys, PyData.eqvAll, D.eqvs, toPy_eqv x y, toPys_eqv r t]
end
section
variable {K : PySem.W.Frag} {CT : Cts} {W : WX} {m : Nat → Addr} {N : Nat} {G H : Hp} {h : PH} {σ : St}
theorem den_all {n : Nat} (ih : ∀ (x : PV) (v : V) (d : D), Rel K m h.length G x v → den h n x = some d → Dp K H v (toPy d) ∧ (toPy d).depth ≤ n) :
    ∀ (xs : List PV) (vs : List V) (ds : List D), RelL K m h.length G xs vs → mapO (den h n) xs = some ds → DpAll K H vs (toPys ds) ∧ PyData.depthAll (toPys ds) ≤ n
  | [], _, ds, r, e => by
    cases r
    have e' : ds = [] := by simpa [mapO] using e.symm
    subst e'
    exact ⟨.nil, by simp [toPys, PyData.depthAll]⟩
  | x :: xs, _, ds, r, e => by
    cases r with
    | cons a r =>
      rw [mapO] at e
      cases e1 : den h n x with
      | none => rw [e1] at e; simp at e
      | some y =>
        rw [e1] at e
        cases e2 : mapO (den h n) xs with
        | none => rw [e2] at e; simp at e
        | some ys =>
          rw [e2] at e
          have e' : ds = y :: ys := by simpa using e.symm
          subst e'
          obtain ⟨q1, q2⟩ := ih _ _ _ a e1
          obtain ⟨q3, q4⟩ := den_all ih xs _ ys r e2
          refine ⟨.cons q1 q3, ?_⟩
          simp only [toPys, PyData.depthAll]
          omega
theorem den_dp (R : HR K CT m G H h) : ∀ (n : Nat) (x : PV) (v : V) (d : D), Rel K m h.length G x v → den h n x = some d → Dp K H v (toPy d) ∧ (toPy d).depth ≤ n := by
  intro n
  induction n with
  | zero =>
    intro x v d r e
    cases x with
    | non => obtain rfl := r.non_inv; simp [den] at e; subst e; exact ⟨by simp only [toPy]; exact .non, by simp [toPy, PyData.depth]⟩
    | bl b => obtain rfl := r.bl_inv; simp [den] at e; subst e; exact ⟨by simp only [toPy]; exact .bl b, by simp [toPy, PyData.depth]⟩
    | int i => obtain rfl := r.int_inv; simp [den] at e; subst e; exact ⟨by simp only [toPy]; exact .int i, by simp [toPy, PyData.depth]⟩
    | str s => obtain rfl := r.str_inv; simp [den] at e; subst e; exact ⟨by simp only [toPy]; exact .str _, by simp [toPy, PyData.depth]⟩
    | tup xs => simp [den] at e
    | ref k => simp [den] at e
  | succ n ih =>
    intro x v d r e
    cases x with
    | non => obtain rfl := r.non_inv; simp [den] at e; subst e; exact ⟨by simp only [toPy]; exact .non, by simp [toPy, PyData.depth]⟩
    | bl b => obtain rfl := r.bl_inv; simp [den] at e; subst e; exact ⟨by simp only [toPy]; exact .bl b, by simp [toPy, PyData.depth]⟩
    | int i => obtain rfl := r.int_inv; simp [den] at e; subst e; exact ⟨by simp only [toPy]; exact .int i, by simp [toPy, PyData.depth]⟩
    | str s => obtain rfl := r.str_inv; simp [den] at e; subst e; exact ⟨by simp only [toPy]; exact .str _, by simp [toPy, PyData.depth]⟩
    | tup xs =>
      obtain ⟨a, vs, rfl, hs, rl⟩ := r.tup_inv
      simp only [den] at e
      cases e1 : mapO (den h n) xs with
      | none => rw [e1] at e; simp at e
      | some ds =>
        rw [e1] at e
        have e' : d = .tup ds := by simpa using e.symm
        subst e'
        obtain ⟨q1, q2⟩ := den_all ih xs vs ds rl e1
        refine ⟨by simp only [toPy]; exact .tup (R.sub.sqT hs) q1, ?_⟩
        simp only [toPy, PyData.depth]
        omega
    | ref k =>
      obtain ⟨rfl, hk⟩ := r.ref_inv
      simp only [den] at e
      split at e
      · rename_i xs ek
        obtain ⟨vs, hs, rl⟩ := R.lst ek
        cases e1 : mapO (den h n) xs with
        | none => rw [e1] at e; simp at e
        | some ds =>
          rw [e1] at e
          have e' : d = .lst ds := by simpa using e.symm
          subst e'
          obtain ⟨q1, q2⟩ := den_all ih xs vs ds rl e1
          refine ⟨by simp only [toPy]; exact .lst (.inl (.inl hs)) q1, ?_⟩
          simp only [toPy, PyData.depth]
          omega
      · rename_i xs ek
        obtain ⟨vs, hs, rl⟩ := R.frz ek
        cases e1 : mapO (den h n) xs with
        | none => rw [e1] at e; simp at e
        | some ds =>
          rw [e1] at e
          have e' : d = .lst ds := by simpa using e.symm
          subst e'
          obtain ⟨q1, q2⟩ := den_all ih xs vs ds rl e1
          refine ⟨by simp only [toPy]; exact .lst hs q1, ?_⟩
          simp only [toPy, PyData.depth]
          omega
      · simp at e
theorem den_shaped (R : HR K CT m G H h) {n : Nat} {x : PV} {v : V} {d : D} (r : Rel K m h.length G x v) (e : den h n x = some d) (hn : n ≤ 64) : SeqAt.shaped (toPy d) = true := by
  have q := (den_dp R n x v d r e).2
  unfold SeqAt.shaped
  rw [toPy_lay]
  simp only [Bool.true_and, decide_eq_true_eq]
  omega
end
/-! ### == and != -/
def rC (K : PySem.W.Frag) (CT : Cts) (W : WX) (o : COp) : R2 := fun x y H Q => ∃ m G h px py σ, HR K CT m G H h ∧ Rel K m h.length G px x ∧ Rel K m h.length G py y ∧ Post K CT (Rel K) W σ m G h.length Q (cmpV o px py h)
section
variable {X : Cx} {CT : Cts} {W : WX}
theorem eq_parts {K : PySem.W.Frag} {m : Nat → Addr} {G H : Hp} {h : PH} {σ : St} {Q : VK} {px py : PV} {f : Bool → Bool} (p : Post K CT (Rel K) W σ m G h.length Q (match eqV px py h with
    | some b => .ok (.bl (f b)) h
    | none => .bad)) (R : HR K CT m G H h) (nd : dicStr px py h = false) (ne : empEq px py h = none) : ∃ a b, den h 60 px = some a ∧ den h 60 py = some b ∧ Q (.bl (f (D.eqv a b))) H := by
  unfold eqV at p
  rw [nd, if_neg (by simp), ne] at p
  dsimp only at p
  cases e1 : den h 60 px with
  | none => rw [e1] at p; exact p.elim
  | some a =>
    cases e2 : den h 60 py with
    | none => rw [e1, e2] at p; exact p.elim
    | some b =>
      rw [e1, e2] at p
      exact ⟨a, b, rfl, rfl, Post.now p R (.bl _)⟩
theorem emp_sq {K : PySem.W.Frag} {CT : Cts} {m : Nat → Addr} {G H : Hp} {h : PH} {px : PV} {x : V} {a p : Bool} (R : HR K CT m G H h) (r : Rel K m h.length G px x) (e : emp px h = some (a, p)) : ∃ b xs, x = .ref b ∧ p = xs.isEmpty ∧ ((a = false ∧ SqL K H b xs) ∨ (a = true ∧ SqT K H b xs)) := by
  have len : ∀ {ps : List PV} {vs : List V}, RelL K m h.length G ps vs → ps.isEmpty = vs.isEmpty := fun q => by
    cases q <;> rfl
  unfold emp at e
  split at e
  · obtain ⟨b, vs, rfl, ht, rl⟩ := r.tup_inv
    injection e with e
    injection e with e1 e2
    subst e1 e2
    exact ⟨b, vs, rfl, len rl, .inr ⟨rfl, R.sub.sqT ht⟩⟩
  · obtain ⟨rfl, _⟩ := r.ref_inv
    split at e
    · rename_i xs ek
      obtain ⟨vs, hH, rl⟩ := R.lst ek
      injection e with e
      injection e with e1 e2
      subst e1 e2
      exact ⟨_, vs, rfl, len rl, .inl ⟨rfl, .of hH⟩⟩
    · rename_i xs ek
      obtain ⟨vs, hH, rl⟩ := R.frz ek
      injection e with e
      injection e with e1 e2
      subst e1 e2
      exact ⟨_, vs, rfl, len rl, .inl ⟨rfl, hH⟩⟩
    · cases e
  · cases e
theorem em_parts {K : PySem.W.Frag} {m : Nat → Addr} {G H : Hp} {h : PH} {σ : St} {Q : VK} {px py : PV} {x y : V} {f : Bool → Bool} (p : Post K CT (Rel K) W σ m G h.length Q (match eqV px py h with
    | some b => .ok (.bl (f b)) h
    | none => .bad)) (R : HR K CT m G H h) (nd : dicStr px py h = false) {b : Bool} (ne : empEq px py h = some b) (r1 : Rel K m h.length G px x) (r2 : Rel K m h.length G py y) : rEm K f x y H Q := by
  unfold eqV at p
  rw [nd, if_neg (by simp), ne] at p
  dsimp only at p
  unfold empEq at ne
  split at ne
  · rename_i a1 p1 a2 p2 e1 e2
    split at ne
    · rename_i hc
      obtain ⟨rfl, hz⟩ := hc
      injection ne with ne
      subst ne
      obtain ⟨b1, xs, rfl, rfl, k1⟩ := emp_sq R r1 e1
      obtain ⟨b2, ys, rfl, rfl, k2⟩ := emp_sq R r2 e2
      refine ⟨b1, b2, xs, ys, rfl, rfl, ?_, ?_, Post.now p R (.bl _)⟩
      · rcases k1 with ⟨rfl, k1⟩ | ⟨rfl, k1⟩
        · rcases k2 with ⟨_, k2⟩ | ⟨z, _⟩
          · exact .inl ⟨k1, k2⟩
          · cases z
        · rcases k2 with ⟨z, _⟩ | ⟨_, k2⟩
          · cases z
          · exact .inr ⟨k1, k2⟩
      · rcases hz with hz | hz
        · exact .inl (List.isEmpty_iff.mp hz)
        · exact .inr (List.isEmpty_iff.mp hz)
    · cases ne
  · cases ne
theorem dic_parts {K : PySem.W.Frag} {m : Nat → Addr} {G H : Hp} {h : PH} {σ : St} {Q : VK} {px py : PV} {x y : V} {f : Bool → Bool} (p : Post K CT (Rel K) W σ m G h.length Q (match eqV px py h with
    | some b => .ok (.bl (f b)) h
    | none => .bad)) (R : HR K CT m G H h) (nd : dicStr px py h = true) (r1 : Rel K m h.length G px x) (r2 : Rel K m h.length G py y) : rDS K (f false) x y H Q := by
  unfold eqV at p
  rw [nd, if_pos rfl] at p
  unfold dicStr at nd
  split at nd
  · rename_i n t
    obtain ⟨rfl, _⟩ := r1.ref_inv
    obtain rfl := r2.str_inv
    split at nd
    · rename_i kvs ek
      obtain ⟨ks, hH, _⟩ := R.dic ek
      exact ⟨_, _, rfl, rfl, .inl ⟨ks, hH⟩, Post.now p R (.bl _)⟩
    · rename_i kvs ek
      obtain ⟨ks, hH, _⟩ := R.lst ek
      exact ⟨_, _, rfl, rfl, .inr (.inl ⟨ks, .of hH⟩), Post.now p R (.bl _)⟩
    · rename_i kvs ek
      obtain ⟨ks, hH, _⟩ := R.frz ek
      exact ⟨_, _, rfl, rfl, .inr (.inl ⟨ks, hH⟩), Post.now p R (.bl _)⟩
    · cases nd
  · obtain ⟨a, vs, rfl, ht, _⟩ := r1.tup_inv
    obtain rfl := r2.str_inv
    exact ⟨_, _, rfl, rfl, .inr (.inr ⟨vs, R.sub.sqT ht⟩), Post.now p R (.bl _)⟩
  · cases nd
theorem op_C_eq (hu : X.A.units + 64 < cLine) : OpR X (compareOp .Eq) (rC X.K CT W .eq) := by
  intro pins s σ H x y v u Q I rx ry ⟨m, G, h, px, py, σ', R, r1, r2, p⟩
  by_cases nd : dicStr px py h = true
  · exact op_eq_ds (by omega) pins s σ H x y v u Q I rx ry (dic_parts (f := fun b => b) p R nd r1 r2)
  rw [Bool.not_eq_true] at nd
  cases ne : empEq px py h with
  | some b => exact op_eq_em (by omega) pins s σ H x y v u Q I rx ry (em_parts (f := fun b => b) p R nd ne r1 r2)
  | none =>
  obtain ⟨a, b, e1, e2, q⟩ := eq_parts (f := fun b => b) p R nd ne
  refine op_eqD hu pins s σ H x y v u Q I rx ry ⟨toPy a, toPy b, (den_dp R _ _ _ _ r1 e1).1, (den_dp R _ _ _ _ r2 e2).1, den_shaped R r1 e1 (by decide), den_shaped R r2 e2 (by decide), ?_⟩
  rw [toPy_eqv]
  exact q
theorem op_C_ne (hu : X.A.units + 64 < cLine) : OpR X (compareOp .NotEq) (rC X.K CT W .ne) := by
  intro pins s σ H x y v u Q I rx ry ⟨m, G, h, px, py, σ', R, r1, r2, p⟩
  by_cases nd : dicStr px py h = true
  · exact op_ne_ds (by omega) pins s σ H x y v u Q I rx ry (dic_parts (f := fun b => !b) p R nd r1 r2)
  rw [Bool.not_eq_true] at nd
  cases ne : empEq px py h with
  | some b => exact op_ne_em (by omega) pins s σ H x y v u Q I rx ry (em_parts (f := fun b => !b) p R nd ne r1 r2)
  | none =>
  obtain ⟨a, b, e1, e2, q⟩ := eq_parts (f := fun b => !b) p R nd ne
  refine op_neD hu pins s σ H x y v u Q I rx ry ⟨toPy a, toPy b, (den_dp R _ _ _ _ r1 e1).1, (den_dp R _ _ _ _ r2 e2).1, den_shaped R r1 e1 (by decide), den_shaped R r2 e2 (by decide), ?_⟩
  rw [toPy_eqv]
  exact q
theorem op_C_lt : OpR X (compareOp .Lt) (rC X.K CT W .lt) := by
  intro pins s σ H x y v u Q I rx ry ⟨m, G, h, px, py, σ', R, r1, r2, p⟩
  simp only [cmpV] at p
  split at p
  · obtain rfl := r1.int_inv
    obtain rfl := r2.int_inv
    exact op_lt pins s σ H _ _ v u Q I rx ry ⟨_, _, rfl, rfl, Post.now p R (.bl _)⟩
  · exact p.elim
theorem op_C_le : OpR X (compareOp .LtE) (rC X.K CT W .le) := by
  intro pins s σ H x y v u Q I rx ry ⟨m, G, h, px, py, σ', R, r1, r2, p⟩
  simp only [cmpV] at p
  split at p
  · obtain rfl := r1.int_inv
    obtain rfl := r2.int_inv
    exact op_le pins s σ H _ _ v u Q I rx ry ⟨_, _, rfl, rfl, Post.now p R (.bl _)⟩
  · exact p.elim
theorem op_C_gt : OpR X (compareOp .Gt) (rC X.K CT W .gt) := by
  intro pins s σ H x y v u Q I rx ry ⟨m, G, h, px, py, σ', R, r1, r2, p⟩
  simp only [cmpV] at p
  split at p
  · obtain rfl := r1.int_inv
    obtain rfl := r2.int_inv
    exact op_gt pins s σ H _ _ v u Q I rx ry ⟨_, _, rfl, rfl, Post.now p R (.bl _)⟩
  · exact p.elim
theorem op_C_ge : OpR X (compareOp .GtE) (rC X.K CT W .ge) := by
  intro pins s σ H x y v u Q I rx ry ⟨m, G, h, px, py, σ', R, r1, r2, p⟩
  simp only [cmpV] at p
  split at p
  · obtain rfl := r1.int_inv
    obtain rfl := r2.int_inv
    exact op_ge pins s σ H _ _ v u Q I rx ry ⟨_, _, rfl, rfl, Post.now p R (.bl _)⟩
  · exact p.elim
theorem non_iff {K : PySem.W.Frag} {m : Nat → Addr} {N : Nat} {G : Hp} {x : PV} {v : V} (r : Rel K m N G x v) : decide (v = .non) = decide (x = .non) := by
  cases r <;> simp
theorem op_C_is : OpR X (compareOp .Is) (rC X.K CT W .is) := by
  intro pins s σ H x y v u Q I rx ry ⟨m, G, h, px, py, σ', R, r1, r2, p⟩
  simp only [cmpV] at p
  split at p
  · obtain rfl := r2.non_inv
    refine op_isN pins s σ H _ _ v u Q I rx ry ⟨rfl, ?_⟩
    rw [non_iff r1]
    exact Post.now p R (.bl _)
  · exact p.elim
theorem op_C_isnot : OpR X (compareOp .IsNot) (rC X.K CT W .isnot) := by
  intro pins s σ H x y v u Q I rx ry ⟨m, G, h, px, py, σ', R, r1, r2, p⟩
  simp only [cmpV] at p
  split at p
  · obtain rfl := r2.non_inv
    refine op_notN pins s σ H _ _ v u Q I rx ry ⟨rfl, ?_⟩
    rw [non_iff r1]
    exact Post.now p R (.bl _)
  · exact p.elim
end
end Mi

set_option Elab.async false
set_option linter.all false
set_option maxRecDepth 100000
/-! Mi7: + - * .., in, subscripts, slices, truth by values. -/
namespace Mi
open PySem L2
def boOp : BOp → Operator
  | .add => .Add | .sub => .Sub | .mul => .Mult | .fdiv => .FloorDiv | .mod => .Mod | .pow => .Pow | .band => .BitAnd | .bor => .BitOr | .bxor => .BitXor
def coOp : COp → CmpOp
  | .eq => .Eq | .ne => .NotEq | .lt => .Lt | .le => .LtE | .gt => .Gt | .ge => .GtE | .isin => .In | .notin => .NotIn | .is => .Is | .isnot => .IsNot
theorem Rel.len {K : PySem.W.Frag} {m : Nat → Addr} {N : Nat} {G : Hp} {xs : List PV} {vs : List V} (r : RelL K m N G xs vs) : vs.length = xs.length := r.length.symm
theorem flat_replicate {K : PySem.W.Frag} {m : Nat → Addr} {N : Nat} {G : Hp} {xs : List PV} {vs : List V} (r : RelL K m N G xs vs) : ∀ n : Nat, RelL K m N G (List.replicate n xs).flatten (List.replicate n vs).flatten
  | 0 => .nil
  | n + 1 => by rw [List.replicate_succ, List.replicate_succ, List.flatten_cons, List.flatten_cons]; exact r.append (flat_replicate r n)
section
variable {X : Cx} {CT : Cts} {W : WX}
theorem str_flat (a : List Char) (n : Nat) : (List.replicate n (a.map Char.toNat)).flatten = ((List.replicate n a).flatten).map Char.toNat := by
  induction n with
  | zero => rfl
  | succ n ih => rw [List.replicate_succ, List.replicate_succ, List.flatten_cons, List.flatten_cons, List.map_append, ih]
theorem op_B (o : BOp) : OpR X (binaryOp (boOp o)) (rB X.K CT W o) := by
  intro pins s σ H x y v u Q I rx ry ⟨m, G, h, px, py, σ', R, r1, r2, p⟩
  unfold bopV at p
  split at p
  · rename_i i j
    obtain rfl := r1.int_inv
    obtain rfl := r2.int_inv
    split at p
    · exact op_add pins s σ H _ _ v u Q I rx ry ⟨_, _, rfl, rfl, Post.now p R (.int _)⟩
    · exact op_sub pins s σ H _ _ v u Q I rx ry ⟨_, _, rfl, rfl, Post.now p R (.int _)⟩
    · split at p
      · rename_i hm
        exact op_mulW pins s σ H _ _ v u Q I rx ry ⟨_, _, rfl, rfl, (show i.natAbs.log2 + j.natAbs.log2 < 1000000 from of_decide_eq_true hm), Post.now p R (.int _)⟩
      · exact p.elim
    · split at p
      · rename_i hm
        exact op_fdivW pins s σ H _ _ v u Q I rx ry ⟨_, _, rfl, rfl, hm, Post.now p R (.int _)⟩
      · exact p.elim
    · split at p
      · rename_i hm
        exact op_mod pins s σ H _ _ v u Q I rx ry ⟨_, _, rfl, rfl, hm, Post.now p R (.int _)⟩
      · exact p.elim
    · split at p
      · rename_i hm
        obtain ⟨t, rfl⟩ := rx
        obtain ⟨t', rfl⟩ := ry
        refine PyProof.Rows.pow_int hm.1 ?_ ⟨.int _, H, I.tok _, ⟨_, rfl⟩, Post.now p R (.int _)⟩
        have hb : Builtin.Int.intBits i ≤ i.natAbs.log2 + 1 := by
          unfold Builtin.Int.intBits
          split <;> omega
        have h2 : Builtin.Int.intBits i * j.toNat ≤ 134217728 := Nat.le_trans (Nat.mul_le_mul_right _ hb) hm.2
        have h3 : ((Builtin.Int.intBits i * j.toNat : Nat) : Int) ≤ 134217728 := Int.ofNat_le.mpr h2
        rw [Int.natCast_mul, Int.toNat_of_nonneg hm.1] at h3
        exact h3
      · exact p.elim
    · exact p.elim
  · rename_i a b
    obtain rfl := r1.str_inv
    obtain rfl := r2.str_inv
    split at p
    · split at p
      · rename_i hl
        refine op_add_str pins s σ H _ _ v u Q I rx ry ⟨_, _, rfl, rfl, by rw [S2_len, S2_len, ← szl_eq]; exact hl, ?_⟩
        rw [S2_app]
        exact Post.now p R (.str _)
      · exact p.elim
    · exact p.elim
  · rename_i a k
    obtain rfl := r1.str_inv
    obtain rfl := r2.int_inv
    split at p
    · split at p
      · rename_i hl
        refine op_strmul pins s σ H _ _ v u Q I rx ry ⟨_, k, rfl, rfl, ⟨hl.1, hl.2.1, by rw [List.length_map]; exact hl.2.2⟩, ?_⟩
        rw [str_flat]
        exact Post.now p R (.str _)
      · exact p.elim
    · exact p.elim
  · rename_i a b
    obtain ⟨a1, v1, rfl, s1, l1⟩ := r1.tup_inv
    obtain ⟨a2, v2, rfl, s2, l2⟩ := r2.tup_inv
    split at p
    · split at p
      · rename_i hl
        refine op_catA pins s σ H _ _ v u Q I rx ry ⟨a1, a2, v1, v2, rfl, rfl, R.sub.sqT s1, R.sub.sqT s2, by rw [Rel.len l1, Rel.len l2, ← szl_eq]; exact hl, fun e => ?_, fun e1 e2 => ?_, fun e1 e2 q hq => ?_⟩
        · have : a = [] := List.length_eq_zero_iff.mp (by rw [l1.length, e]; rfl)
          subst this
          exact Post.now p R (.tup s2 l2)
        · have : b = [] := List.length_eq_zero_iff.mp (by rw [l2.length, e2]; rfl)
          subst this
          rw [List.append_nil] at p
          exact Post.now p R (.tup s1 l1)
        · exact Post.newT p R (l1.append l2) hq
      · exact p.elim
    · exact p.elim
  · rename_i a k
    obtain ⟨a1, v1, rfl, s1, l1⟩ := r1.tup_inv
    obtain rfl := r2.int_inv
    split at p
    · split at p
      · rename_i hl
        refine op_repT pins s σ H _ _ v u Q I rx ry ⟨a1, k, v1, rfl, rfl, R.sub.sqT s1, fun e => ?_, hl.2.1, hl.2.2.1, by rw [Rel.len l1]; exact hl.2.2.2, fun q hq => Post.newT p R (flat_replicate l1 _) hq⟩
        exact hl.1 (List.length_eq_zero_iff.mp (by rw [l1.length, e]; rfl))
      · exact p.elim
    · exact p.elim
  · rename_i a b
    obtain ⟨rfl, ha⟩ := r1.ref_inv
    obtain ⟨rfl, hb⟩ := r2.ref_inv
    split at p
    · rename_i xs ys e1 e2
      obtain ⟨v1, q1, l1⟩ := R.lst e1
      obtain ⟨v2, q2, l2⟩ := R.lst e2
      split at p
      · rename_i hl
        exact op_cat pins s σ H _ _ v u Q I rx ry ⟨_, _, v1, v2, rfl, rfl, q1, q2, by rw [Rel.len l1, Rel.len l2, ← szl_eq]; exact hl, fun q hq => Post.newL p R (l1.append l2) hq⟩
      · exact p.elim
    · exact p.elim
  · rename_i a k
    obtain ⟨rfl, ha⟩ := r1.ref_inv
    obtain rfl := r2.int_inv
    split at p
    · rename_i xs e1
      obtain ⟨v1, q1, l1⟩ := R.lst e1
      split at p
      · rename_i hl
        exact op_rep pins s σ H _ _ v u Q I rx ry ⟨_, k, v1, rfl, rfl, q1, by omega, by omega, by rw [Rel.len l1, ← szl_eq]; exact hl.2.2, fun q hq => Post.newL p R (flat_replicate l1 _) hq⟩
      · exact p.elim
    · exact p.elim
  · exact p.elim
/-! ### in -/
theorem any_eq (d : D) : ∀ ds : List D, (toPys ds).any (fun z => PyData.eqv z (toPy d)) = anyEq d ds
  | [] => rfl
  | x :: r => by
    simp only [toPys, List.any_cons, toPy_eqv, anyEq]
    rw [any_eq d r]
theorem lookK_val {K : PySem.W.Frag} {m : Nat → Addr} {N : Nat} {G : Hp} {k : PV} {g : Key} (rk : RelK k g) : ∀ {kvs : List (PV × PV)} {ks : List (Key × V)}, RelD K m N G kvs ks →
    (∀ x, lookK k kvs = some x → ∃ v, valV ks g = some v ∧ Rel K m N G x v) ∧ (lookK k kvs = none → valV ks g = none)
  | [], [], _ => ⟨fun x e => (by cases e), fun _ => rfl⟩
  | (a, w) :: r, (b, v) :: t, ⟨h1, h2, h3⟩ => by
    obtain ⟨i1, i2⟩ := lookK_val rk h3
    have hkb : (a = k) ↔ (b = g) := by
      cases a <;> cases b <;> cases k <;> cases g <;> simp_all [RelK]
      rename_i s1 s2
      constructor
      · rintro rfl; rfl
      · exact map_inj
    by_cases e : a = k
    · have e' := hkb.mp e
      subst e'
      refine ⟨fun x q => ?_, fun q => ?_⟩
      · simp only [lookK, if_pos e] at q
        obtain rfl : w = x := by simpa using q
        exact ⟨v, by simp [valV], h2⟩
      · simp only [lookK, if_pos e] at q
        cases q
    · have e' : ¬ b = g := fun z => e (hkb.mpr z)
      refine ⟨fun x q => ?_, fun q => ?_⟩
      · simp only [lookK, if_neg e] at q
        obtain ⟨z, h4, h5⟩ := i1 x q
        refine ⟨z, ?_, h5⟩
        simp only [valV] at h4 ⊢
        rw [List.find?_cons_of_neg (by simpa using e')]
        exact h4
      · simp only [lookK, if_neg e] at q
        have h4 := i2 q
        simp only [valV] at h4 ⊢
        rw [List.find?_cons_of_neg (by simpa using e')]
        exact h4
theorem key_of {K : PySem.W.Frag} {m : Nat → Addr} {N : Nat} {G : Hp} {k : PV} {v : V} (r : Rel K m N G k v) (hk : keyOk k = true) : ∃ g, RelK k g ∧ v = kV g := by
  cases k with
  | int i => obtain rfl := r.int_inv; exact ⟨.inl i, rfl, rfl⟩
  | str s => obtain rfl := r.str_inv; exact ⟨.inr (S2 s), rfl, rfl⟩
  | _ => cases hk
end
end Mi

set_option Elab.async false
set_option linter.all false
set_option maxRecDepth 100000
/-! Mi8: in, subscripts, slices, truth by values. -/
namespace Mi
open PySem L2
theorem room_in {A : Around} {d e : Nat} (h1 : d ≤ 64) (hu : A.units + 65 < cLine) : A.units + 1 + min d e < cLine := by omega
section
variable {X : Cx} {CT : Cts} {W : WX}
theorem dgets {K : PySem.W.Frag} {m : Nat → Addr} {G H : Hp} {h : PH} (R : HR K CT m G H h) {n : Nat} {kvs : List (PV × PV)} (e : h[n]? = some (.dic kvs)) {k : PV} {v : V} (r : Rel K m h.length G k v) (hk : keyOk k = true) :
    ∃ o, DGet H (m n) v o ∧ o.isSome = (lookK k kvs).isSome ∧ ∀ x, lookK k kvs = some x → ∃ w, o = some w ∧ Rel K m h.length G x w := by
  obtain ⟨ks, q, rd⟩ := R.dic e
  obtain ⟨g, rk, rfl⟩ := key_of r hk
  obtain ⟨l1, l2⟩ := lookK_val rk rd
  refine ⟨_, DGet.k (k := g) q, ?_, l1⟩
  cases z : lookK k kvs with
  | none => rw [l2 z]; rfl
  | some x =>
    obtain ⟨w, q1, _⟩ := l1 x z
    rw [q1]
    rfl
theorem in_seq {K : PySem.W.Frag} {m : Nat → Addr} {G H : Hp} {h : PH} {px : PV} {ys : List PV} {b : Bool} (p : (match den h 50 px, mapO (den h 50) ys with
      | some a, some bs => some (anyEq a bs)
      | _, _ => none) = some b) : ∃ a bs, den h 50 px = some a ∧ mapO (den h 50) ys = some bs ∧ anyEq a bs = b := by
  cases e1 : den h 50 px with
  | none => rw [e1] at p; cases p
  | some a =>
    cases e2 : mapO (den h 50) ys with
    | none => rw [e1, e2] at p; cases p
    | some bs =>
      rw [e1, e2] at p
      exact ⟨a, bs, rfl, rfl, by simpa using p⟩
/-- what in finds, in the heap -/
inductive InIs (X : Cx) (H : Hp) (x y : V) : Bool → Prop
  | sign (c : Nat) (z : Str) (e1 : x = .str ⟨#[c]⟩) (e2 : y = .str z) : InIs X H x y (decide (c ∈ z.cps.toList))
  | tup (d : D) (bs : List D) (h1 : Dp X.K H x (toPy d)) (h2 : Dp X.K H y (.tuple (toPys bs))) (h3 : PyData.depthAll (toPys bs) ≤ 50) : InIs X H x y (anyEq d bs)
  | lst (d : D) (bs : List D) (h1 : Dp X.K H x (toPy d)) (h2 : Dp X.K H y (.list (toPys bs))) (h3 : PyData.depthAll (toPys bs) ≤ 50) : InIs X H x y (anyEq d bs)
  | dic (a : Addr) (o : Option V) (e : y = .ref a) (g : DGet H a x o) : InIs X H x y o.isSome
theorem in_is {m : Nat → Addr} {G H : Hp} {h : PH} {px py : PV} {x y : V} {b : Bool} (R : HR X.K CT m G H h) (r1 : Rel X.K m h.length G px x) (r2 : Rel X.K m h.length G py y) (hb : inV px py h = some b) : InIs X H x y b := by
  cases py with
  | str t =>
    obtain rfl := r2.str_inv
    simp only [inV] at hb
    split at hb
    · rename_i c
      obtain rfl := r1.str_inv
      have hb' : b = decide (c ∈ t) := by simpa using hb.symm
      subst hb'
      have e : (c.toNat ∈ (S2 t).cps.toList) = (c ∈ t) := by
        rw [S2_cps]
        apply propext
        constructor
        · intro z
          obtain ⟨d, hd, e⟩ := List.mem_map.mp z
          rw [← toNat_inj e]
          exact hd
        · exact fun z => List.mem_map_of_mem z
      have q := InIs.sign (X := X) (H := H) (x := .str (S2 [c])) (y := .str (S2 t)) c.toNat (S2 t) rfl rfl
      simp only [e] at q
      exact q
    · cases hb
  | tup ys =>
    obtain ⟨a, vs, rfl, hs, rl⟩ := r2.tup_inv
    simp only [inV] at hb
    obtain ⟨d, bs, e1, e2, rfl⟩ := in_seq (K := X.K) (m := m) (G := G) (H := H) hb
    obtain ⟨d3, d4⟩ := den_all (fun x v d r e => den_dp R _ x v d r e) ys vs bs rl e2
    exact .tup d bs (den_dp R _ _ _ _ r1 e1).1 (.tup (R.sub.sqT hs) d3) d4
  | ref n =>
    obtain ⟨rfl, hn⟩ := r2.ref_inv
    simp only [inV] at hb
    split at hb
    · rename_i ys ek
      obtain ⟨vs, hs, rl⟩ := R.lst ek
      obtain ⟨d, bs, e1, e2, rfl⟩ := in_seq (K := X.K) (m := m) (G := G) (H := H) hb
      obtain ⟨d3, d4⟩ := den_all (fun x v d r e => den_dp R _ x v d r e) ys vs bs rl e2
      exact .lst d bs (den_dp R _ _ _ _ r1 e1).1 (.lst (.inl (.inl hs)) d3) d4
    · rename_i ys ek
      obtain ⟨vs, hs, rl⟩ := R.frz ek
      obtain ⟨d, bs, e1, e2, rfl⟩ := in_seq (K := X.K) (m := m) (G := G) (H := H) hb
      obtain ⟨d3, d4⟩ := den_all (fun x v d r e => den_dp R _ x v d r e) ys vs bs rl e2
      exact .lst d bs (den_dp R _ _ _ _ r1 e1).1 (.lst hs d3) d4
    · rename_i kvs ek
      split at hb
      · rename_i hk
        have hb' : b = (lookK px kvs).isSome := by simpa using hb.symm
        subst hb'
        obtain ⟨o, g, e, _⟩ := dgets R ek r1 hk
        rw [← e]
        exact .dic _ o rfl g
      · cases hb
    · cases hb
  | _ => simp [inV] at hb
theorem bR_parts {K : PySem.W.Frag} {m : Nat → Addr} {G H : Hp} {h : PH} {σ : St} {Q : VK} {o : Option Bool} (p : Post K CT (Rel K) W σ m G h.length Q (bR o h)) (R : HR K CT m G H h) : ∃ b, o = some b ∧ Q (.bl b) H := by
  cases o with
  | none => exact p.elim
  | some b => exact ⟨b, rfl, Post.now p R (.bl _)⟩
theorem nbR_parts {K : PySem.W.Frag} {m : Nat → Addr} {G H : Hp} {h : PH} {σ : St} {Q : VK} {o : Option Bool} (p : Post K CT (Rel K) W σ m G h.length Q (nbR o h)) (R : HR K CT m G H h) : ∃ b, o = some b ∧ Q (.bl (!b)) H := by
  cases o with
  | none => exact p.elim
  | some b => exact ⟨b, rfl, Post.now p R (.bl _)⟩
theorem op_C_in (hu : X.A.units + 65 < cLine) : OpR X (compareOp .In) (rC X.K CT W .isin) := by
  intro pins s σ H x y v u Q I rx ry ⟨m, G, h, px, py, σ', R, r1, r2, p⟩
  obtain ⟨b, hb, q⟩ := bR_parts p R
  cases in_is R r1 r2 hb with
  | sign c z e1 e2 => exact op_in_sign pins s σ H _ _ v u Q I rx ry ⟨c, z, e1, e2, q⟩
  | tup d bs h1 h2 h3 =>
    obtain ⟨as, ra⟩ := Dp.reads I (toPy d) x v h1 rx
    obtain ⟨cs, rc⟩ := Dp.reads I (.tuple (toPys bs)) y u h2 ry
    refine SeqAt.in_tuple_reads rc ra (toPys_lay bs) (toPy_lay d) (room_in (by omega) hu) ⟨.bl _, H, I, rfl, ?_⟩
    rw [any_eq]
    exact q
  | lst d bs h1 h2 h3 =>
    obtain ⟨as, ra⟩ := Dp.reads I (toPy d) x v h1 rx
    obtain ⟨cs, rc⟩ := Dp.reads I (.list (toPys bs)) y u h2 ry
    refine SeqAt.in_list_reads rc ra (toPys_lay bs) (toPy_lay d) (room_in (by omega) hu) ⟨.bl _, H, I, rfl, ?_⟩
    rw [any_eq]
    exact q
  | dic a o e g =>
    subst e
    cases ry
    exact d_in (by omega) I g rx fun s3 I3 => ⟨.bl o.isSome, H, I3, rfl, q⟩
theorem op_C_notin (hu : X.A.units + 65 < cLine) : OpR X (compareOp .NotIn) (rC X.K CT W .notin) := by
  intro pins s σ H x y v u Q I rx ry ⟨m, G, h, px, py, σ', R, r1, r2, p⟩
  obtain ⟨b, hb, q⟩ := nbR_parts p R
  cases in_is R r1 r2 hb with
  | sign c z e1 e2 => exact op_notIn_sign pins s σ H _ _ v u Q I rx ry ⟨c, z, e1, e2, q⟩
  | tup d bs h1 h2 h3 =>
    obtain ⟨as, ra⟩ := Dp.reads I (toPy d) x v h1 rx
    obtain ⟨cs, rc⟩ := Dp.reads I (.tuple (toPys bs)) y u h2 ry
    refine SeqAt.notIn_tuple_reads rc ra (toPys_lay bs) (toPy_lay d) (room_in (by omega) hu) ⟨.bl _, H, I, rfl, ?_⟩
    rw [any_eq]
    exact q
  | lst d bs h1 h2 h3 =>
    obtain ⟨as, ra⟩ := Dp.reads I (toPy d) x v h1 rx
    obtain ⟨cs, rc⟩ := Dp.reads I (.list (toPys bs)) y u h2 ry
    refine SeqAt.notIn_list_reads rc ra (toPys_lay bs) (toPy_lay d) (room_in (by omega) hu) ⟨.bl _, H, I, rfl, ?_⟩
    rw [any_eq]
    exact q
  | dic a o e g =>
    subst e
    cases ry
    exact d_notIn (by omega) I g rx fun s3 I3 => ⟨.bl (!o.isSome), H, I3, rfl, q⟩
theorem op_C (hu : X.A.units + 65 < cLine) (o : COp) : OpR X (compareOp (coOp o)) (rC X.K CT W o) := by
  cases o
  · exact op_C_eq (by omega)
  · exact op_C_ne (by omega)
  · exact op_C_lt
  · exact op_C_le
  · exact op_C_gt
  · exact op_C_ge
  · exact op_C_in hu
  · exact op_C_notin hu
  · exact op_C_is
  · exact op_C_isnot
/-! ### a[i], a[i:j] -/
theorem atI_get {α β : Type} {xs : List α} {vs : List β} {P : α → β → Prop} (hl : xs.length = vs.length) (hg : ∀ (j : Nat) (x : α), xs[j]? = some x → ∃ v, vs[j]? = some v ∧ P x v) {i : Int} {x : α} (e : atI xs i = some x) : ∃ v, L2.atI vs i = some v ∧ P x v := by
  unfold atI at e
  cases e1 : ixN xs.length i with
  | none => rw [e1] at e; cases e
  | some j =>
    rw [e1] at e
    obtain ⟨v, h1, h2⟩ := hg j x e
    refine ⟨v, ?_, h2⟩
    unfold L2.atI
    have e2 : L2.ixN vs.length i = some j := by rw [← hl]; exact e1
    rw [e2]
    exact h1
theorem oneR_parts {α β : Type} {K : PySem.W.Frag} {rel : (Nat → Addr) → Nat → Hp → α → β → Prop} {m : Nat → Addr} {G H : Hp} {h : PH} {σ : St} {Q : β → Hp → Prop} {o : Option α} (p : Post K CT rel W σ m G h.length Q (oneR o h)) (R : HR K CT m G H h) : ∃ a, o = some a ∧ ∀ b, rel m h.length G a b → Q b H := by
  cases o with
  | none => exact p.elim
  | some a => exact ⟨a, rfl, fun b r => Post.now p R r⟩
def rX (K : PySem.W.Frag) (CT : Cts) (W : WX) : R2 := fun x y H Q => ∃ m G h px py σ, HR K CT m G H h ∧ Rel K m h.length G px x ∧ Rel K m h.length G py y ∧ Post K CT (Rel K) W σ m G h.length Q (idxV px py h)
theorem ix_all (hu : X.A.units + 1 < cLine) : IxR X (rX X.K CT W) := by
  intro value slice pins s σ H x y v u Q I rx ry ⟨m, G, h, px, py, σ', R, r1, r2, p⟩ hs
  unfold idxV at p
  split at p
  · rename_i xs
    obtain ⟨a, vs, rfl, hsq, rl⟩ := r1.tup_inv
    split at p
    · rename_i i
      obtain rfl := r2.int_inv
      obtain ⟨w, e, q⟩ := oneR_parts p R
      obtain ⟨z, e2, r3⟩ := atI_get rl.length (fun j x q => rl.get q) e
      exact ix_tup value slice pins s σ H _ _ v u Q I rx ry ⟨a, vs, i, z, rfl, rfl, R.sub.sqT hsq, e2, q z r3⟩ hs
    · exact p.elim
  · rename_i t
    obtain rfl := r1.str_inv
    split at p
    · rename_i i
      obtain rfl := r2.int_inv
      split at p
      · rename_i hl
        obtain ⟨w, e, q⟩ := oneR_parts p R
        cases e3 : atI t i with
        | none => rw [e3] at e; cases e
        | some c =>
          rw [e3] at e
          have ew : w = .str [c] := by simpa using e.symm
          subst ew
          obtain ⟨z, e2, r3⟩ := atI_get (vs := t.map Char.toNat) (P := fun c n => n = c.toNat) (by rw [List.length_map]) (fun j x q => ⟨x.toNat, by rw [List.getElem?_map, q]; rfl, rfl⟩) e3
          subst r3
          exact ix_str value slice pins s σ H _ _ v u Q I rx ry ⟨_, i, c.toNat, rfl, rfl, by rw [S2_len, ← szl_eq]; exact hl, by rw [S2_cps]; exact e2, q _ (.str [c])⟩ hs
      · exact p.elim
    · exact p.elim
  · rename_i n
    obtain ⟨rfl, hn⟩ := r1.ref_inv
    split at p
    · rename_i xs ek
      obtain ⟨vs, hsq, rl⟩ := R.lst ek
      split at p
      · rename_i i
        obtain rfl := r2.int_inv
        obtain ⟨w, e, q⟩ := oneR_parts p R
        obtain ⟨z, e2, r3⟩ := atI_get rl.length (fun j x q => rl.get q) e
        exact ix_list value slice pins s σ H _ _ v u Q I rx ry ⟨_, vs, i, z, rfl, rfl, .inl (.inl hsq), e2, q z r3⟩ hs
      · exact p.elim
    · rename_i xs ek
      obtain ⟨vs, hsq, rl⟩ := R.frz ek
      split at p
      · rename_i i
        obtain rfl := r2.int_inv
        obtain ⟨w, e, q⟩ := oneR_parts p R
        obtain ⟨z, e2, r3⟩ := atI_get rl.length (fun j x q => rl.get q) e
        exact ix_list value slice pins s σ H _ _ v u Q I rx ry ⟨_, vs, i, z, rfl, rfl, hsq, e2, q z r3⟩ hs
      · exact p.elim
    · rename_i kvs ek
      split at p
      · rename_i hk
        obtain ⟨w, e, q⟩ := oneR_parts p R
        obtain ⟨o, g, _, hw⟩ := dgets R ek r2 hk
        obtain ⟨z, e2, r3⟩ := hw w e
        subst e2
        cases rx
        exact PyProof.Rows.tail_any (dict_typeIs I g) PySem.F.slot_dict_getitem.lookup (d_getItem hu I g ry fun w' s3 I3 rw' => ⟨z, H, I3, rw', q z r3⟩) hs
      · exact p.elim
    · exact p.elim
  · exact p.elim
theorem cut_rel {K : PySem.W.Frag} {m : Nat → Addr} {N : Nat} {G : Hp} {xs : List PV} {vs : List V} (r : RelL K m N G xs vs) (lo hi : Option Int) : RelL K m N G (cutL xs lo hi) (cutV vs lo hi) := by
  have e := r.length
  unfold cutL cutV
  have e1 : ∀ n d o, HT.sIx n d o = sIx n d o := fun n d o => by cases o <;> rfl
  rw [e1, e1, ← e]
  exact (r.drop _).take _
def rS (K : PySem.W.Frag) (CT : Cts) (W : WX) : V → Option Int → Option Int → Hp → VK → Prop := fun x lo hi H Q => ∃ m G h px σ, HR K CT m G H h ∧ Rel K m h.length G px x ∧ Post K CT (Rel K) W σ m G h.length Q (slcV px lo hi h)
theorem sl_all : SlR X (rS X.K CT W) := by
  intro pins s σ H x v vl vu lo hi sl Q I rx hs pl pu ⟨m, G, h, px, σ', R, r1, p⟩
  unfold slcV at p
  split at p
  · rename_i xs
    obtain ⟨a, vs, rfl, hsq, rl⟩ := r1.tup_inv
    refine sl_tupA pins s σ H _ v vl vu lo hi sl Q I rx hs pl pu ⟨a, vs, rfl, R.sub.sqT hsq, fun e => ?_, fun _ q hq => ?_⟩
    · have e1 : ∀ n d o, HT.sIx n d o = sIx n d o := fun n d o => by cases o <;> rfl
      rw [e1, e1, ← rl.length] at e
      have e2 : cutL xs lo hi = xs := by
        unfold cutL
        rw [e.1, e.2]
        simp
      rw [e2] at p
      exact Post.now p R (.tup hsq rl)
    · exact Post.newT p R (cut_rel rl lo hi) hq
  · rename_i t
    obtain rfl := r1.str_inv
    split at p
    · rename_i hl
      refine sl_str pins s σ H _ v vl vu lo hi sl Q I rx hs pl pu ⟨_, rfl, by rw [S2_len, ← szl_eq]; exact hl, ?_⟩
      have e : cutS (S2 t) lo hi = S2 (cutL t lo hi) := by
        unfold cutS cutL
        have e1 : ∀ n d o, HT.sIx n d o = sIx n d o := fun n d o => by cases o <;> rfl
        rw [e1, e1, S2_len, S2_cps, ← List.map_drop, ← List.map_take]
      rw [e]
      exact Post.now p R (.str _)
    · exact p.elim
  · rename_i n
    obtain ⟨rfl, hn⟩ := r1.ref_inv
    split at p
    · rename_i xs ek
      obtain ⟨vs, hsq, rl⟩ := R.lst ek
      exact sl_list pins s σ H _ v vl vu lo hi sl Q I rx hs pl pu ⟨_, vs, rfl, .inl (.inl hsq), fun q hq => Post.newL p R (cut_rel rl lo hi) hq⟩
    · rename_i xs ek
      obtain ⟨vs, hsq, rl⟩ := R.frz ek
      exact sl_list pins s σ H _ v vl vu lo hi sl Q I rx hs pl pu ⟨_, vs, rfl, hsq, fun q hq => Post.newL p R (cut_rel rl lo hi) hq⟩
    · exact p.elim
  · exact p.elim
/-! ### truth -/
theorem tru_ok {m : Nat → Addr} {G H : Hp} {h : PH} {px : PV} {x : V} {b : Bool} {K : PySem.W.Frag} (R : HR K CT m G H h) (r : Rel K m h.length G px x) (e : tru px h = some b) : TruV K x H b := by
  cases px with
  | non => obtain rfl := r.non_inv; simpa [tru, TruV] using e.symm
  | bl c => obtain rfl := r.bl_inv; simpa [tru, TruV] using e.symm
  | int i => obtain rfl := r.int_inv; simpa [tru, TruV] using e.symm
  | str s =>
    obtain rfl := r.str_inv
    simp only [tru] at e
    split at e
    · rename_i hl
      refine ⟨by rw [S2_len, ← szl_eq]; exact hl, ?_⟩
      have e' : b = (s.length != 0) := by simpa using e.symm
      rw [e', S2_len]
      cases s <;> simp
      all_goals omega
    · cases e
  | tup xs =>
    obtain ⟨a, vs, rfl, hs, rl⟩ := r.tup_inv
    refine .inr (.inl ⟨vs, R.sub.sqT hs, ?_⟩)
    have e' : b = !xs.isEmpty := by simpa [tru] using e.symm
    rw [e']
    cases rl <;> rfl
  | ref n =>
    obtain ⟨rfl, hn⟩ := r.ref_inv
    simp only [tru] at e
    split at e
    · rename_i xs ek
      obtain ⟨vs, hs, rl⟩ := R.lst ek
      refine .inl ⟨vs, .inl (.inl hs), ?_⟩
      have e' : b = !xs.isEmpty := by simpa using e.symm
      rw [e']
      cases rl <;> rfl
    · rename_i xs ek
      obtain ⟨vs, hs, rl⟩ := R.frz ek
      refine .inl ⟨vs, hs, ?_⟩
      have e' : b = !xs.isEmpty := by simpa using e.symm
      rw [e']
      cases rl <;> rfl
    · rename_i kvs ek
      obtain ⟨ks, hs, rd⟩ := R.dic ek
      refine .inr (.inr ⟨ks, hs, ?_⟩)
      have e' : b = !kvs.isEmpty := by simpa using e.symm
      rw [e']
      cases kvs <;> cases ks <;> first | rfl | exact rd.elim
    · cases e
theorem truR_parts {K : PySem.W.Frag} {m : Nat → Addr} {G H : Hp} {h : PH} {σ : St} {Q : Bool → Hp → Prop} {v : PV} (p : Post K CT relB W σ m G h.length Q (truR v h)) (R : HR K CT m G H h) : ∃ b, tru v h = some b ∧ Q b H := by
  unfold truR at p
  cases e : tru v h with
  | none => rw [e] at p; exact p.elim
  | some b => rw [e] at p; exact ⟨b, rfl, Post.now p R rfl⟩
end
end Mi

set_option Elab.async false
set_option linter.all false
set_option maxRecDepth 100000
/-! Mi9: defs and calls. A def's promise here speaks of the small interpreter; no repr is under way where a def is called. -/
namespace Mi
open PySem PySem.Spec PyProof.Rows L2
/-- the def at f keeps the promise sp, at a place with room where no repr runs -/
structure FnG (P : Program) (w : World) (K : PySem.W.Frag) (mg : Str → Option Value) (base : Heap) (k : Nat) (f : Addr) (fd : FuncData) (ps : List Str) (sp : Sp) : Prop where
  ar : ∀ vs H Q E, sp vs H Q E → vs.length = ps.length
  go : ∀ (A : Around) (out : List PySem.Env) (s : Shared) (H : Hp) (args : Args) (us : List Value) (vs : List V) (Q : VK) (E : XK), Room k A → A.guards = some [] → Env0 P w K mg base A out s H → BindsTo s fd args (ps.zip us) → Vals vs us → sp vs H Q E →
    codeAny (model P w) A (.call (.ref f) args) (CR (L2.CX P w) out P w H s Q E) s
theorem FnG.more {P : Program} {w : World} {K : PySem.W.Frag} {mg : Str → Option Value} {base : Heap} {j k : Nat} {f : Addr} {fd : FuncData} {ps : List Str} {sp : Sp} (F : FnG P w K mg base j f fd ps sp) (h : j ≤ k) : FnG P w K mg base k f fd ps sp :=
  ⟨F.ar, fun A out s H args us vs Q E hr => F.go A out s H args us vs Q E (hr.mono h)⟩
theorem FnG.none {P : Program} {w : World} {K : PySem.W.Frag} {mg : Str → Option Value} {base : Heap} {k : Nat} {f : Addr} {fd : FuncData} {ps : List Str} {sp : Sp} (h : ∀ vs H Q E, ¬ sp vs H Q E) : FnG P w K mg base k f fd ps sp :=
  ⟨fun vs H Q E z => (h _ _ _ _ z).elim, fun A out s H args us vs Q E _ _ _ _ _ z => (h _ _ _ _ z).elim⟩
section
variable {P : Program} {w : World} {K : PySem.W.Frag} {mg : Str → Option Value} {base : Heap}
/-- from its body -/
theorem fnG_of {x qual : Str} {st : Stmt} {f : Addr} {fd : FuncData} {NN ps : List Str} {k : Nat} {sp : Sp} (F : Fun K x qual st f fd) (S : FnScope NN ps (defScope st)) (ar : ∀ vs H Q E, sp vs H Q E → vs.length = ps.length)
    (hb : ∀ (cdv : Value) (A : Around) (out : List PySem.Env) (s : Shared) (H : Hp) (vs : List V) (Q : VK) (E : XK), Room k (A.deeper (envOfC qual (defScope st) s.heap.objs.size f cdv)) → A.guards = some [] → sp vs H Q E →
      ∃ t, PSs (cxOf (L2.CX P w) P w K mg base NN qual (defScope st) f cdv A out s H E) (defBody st) t ∧ t { nx := fun _ H' => Q .non H', rt := Q } (start NN vs) H) : FnG P w K mg base (k + 1) f fd ps sp := by
  obtain ⟨oc, od, kV, doc, pm, an, cdv, ct, osl, rfl, lk, hcd⟩ := F.ex
  refine ⟨ar, fun A out s H args us vs Q E hr hg e0 hbd r hsp => ?_⟩
  -- the written part and the limit, in the heap at hand
  have inK := e0.mod.kin.keeps (fun b o e => (e0.bs b o e).1)
  have noLim := e0.mod.nolimit.keeps (fun b o e => (e0.bs b o e).1)
  have kinds : ∀ y ∈ ps.zip us, (defScope st).names.lookup y.1 = some .local ∨ ((defScope st).names.lookup y.1 = some .cell ∧ ((cellsFrom (s.heap.objs.size + 1) (defScope st).names []).lookup y.1).isSome = true) := by
    rintro ⟨n, v⟩ hy
    have hn : n ∈ ps := (List.of_mem_zip hy).1
    cases S.par n hn with
    | inl q => exact .inl q
    | inr q => exact .inr ⟨q, PySem.W.cellsFrom_some _ _ _ (.inl q)⟩
  refine codeAny_call_function hr.depth (inK _ _ lk) rfl S.co S.gen rfl (PySem.W.codeRec_of inK hcd) (hbd _ _ _ _ ?_)
  refine wpAny_newFunctionEnv_cells S.kind kinds fun env he s1 x => ?_
  subst he
  refine ⟨noLim.keeps x.toInCall.keep, codeAny_func ?_⟩
  obtain ⟨t, ht, hq⟩ := hb cdv A out s H vs Q E (hr.deeper _) hg hsp
  have I0 := inv_start (CX := L2.CX P w) (E := E) S hr.hd e0 (ar _ _ _ _ hsp) r x
  refine wpAny_mono (ht.run [] s1 (start NN vs) H _ I0 hq) (fun fl s' hs => ?_) (fun e s' hs => hs)
  cases fl with
  | ret u =>
    obtain ⟨v, σ', H', J, rv, q⟩ := hs
    exact ⟨v, H', J.os, J.bare, J.base, J.hok, rv, q⟩
  | next =>
    obtain ⟨σ', H', J, q⟩ := hs
    exact ⟨V.non, H', J.os, J.bare, J.base, J.hok, rfl, q⟩
  | brk =>
    obtain ⟨_, _, _, z⟩ := hs
    exact False.elim z
  | cont =>
    obtain ⟨_, _, _, z⟩ := hs
    exact False.elim z
end
/-! ### a def's promise: what the small interpreter says -/
def spI (K : PySem.W.Frag) (CT : Cts) (cl : Cl) (f : FN) : Sp := fun vs H Q E =>
  ∃ m G h pvs, HR K CT m G H h ∧ RelL K m h.length G pvs vs ∧ Post K CT (Rel K) (fun cls d _ H' => E cls d H') [] m G h.length Q (cl f pvs h)
/-- which def: where it stands, how its arguments bind; and that it keeps its promise at room k -/
structure Cal (P : Program) (w : World) (K : PySem.W.Frag) (mg : Str → Option Value) (base : Heap) (CT : Cts) (cl : Cl) (k : Nat) (f : FN) (a : Addr) : Prop where
  ex : ∃ fd ps, FnG P w K mg base k a fd ps (spI K CT cl f) ∧ Binds K fd ps []
section
variable {X : Cx} {CT : Cts} {cl : Cl} {W : WX} {k : Nat} {f : FN} {a : Addr}
theorem Post.slots {α β : Type} {K : PySem.W.Frag} {rel : (Nat → Addr) → Nat → Hp → α → β → Prop} {m : Nat → Addr} {G : Hp} {N : Nat} {σ σ' : L2.St} {W W' : WX} {Q : β → Hp → Prop} {r : R α} (p : Post K CT rel W σ m G N Q r) (e : ∀ c d H, W c d σ H → W' c d σ' H) : Post K CT rel W' σ' m G N Q r := by
  cases r with
  | ok a h' => exact p
  | exc x h' => exact fun m' G' H' cls d e1 e2 e3 e4 => e _ _ _ (p m' G' H' cls d e1 e2 e3 e4)
  | bad => exact p
/-- a call of it, its arguments at hand -/
theorem run_cal (F : Cal X.prog X.w X.K X.mg X.base CT cl k f a) (hr : Room k X.A) (hg : X.A.guards = some []) (tk : Takes X W) {pins : List (Addr × Obj)} {σ : L2.St} {H : Hp} {s : Shared} {Q : VK} {us : List Value} {vs : List V} {m : Nat → Addr} {G : Hp} {h : PH} {pvs : List PV}
    (I : Inv X pins σ H s) (r : Vals vs us) (R : HR X.K CT m G H h) (rl : RelL X.K m h.length G pvs vs) (p : Post X.K CT (Rel X.K) W σ m G h.length Q (cl f pvs h)) : wpAny (model X.prog X.w) X.A (call (.ref a) us) (EP X pins σ Q) X.xe s := by
  obtain ⟨fd, ps, F, hb⟩ := F.ex
  have hsp : spI X.K CT cl f vs H Q (fun cls d H' => W cls d σ H') := ⟨m, G, h, pvs, R, rl, p.slots fun _ _ _ z => z⟩
  have hl : us.length = ps.length := by rw [← r.length]; exact F.ar _ _ _ _ hsp
  have hbd : BindsTo s fd ⟨us, []⟩ (ps.zip us) := by
    have q := hb s us I.kIn (by rw [List.append_nil]; exact hl)
    rw [List.append_nil] at q
    exact q
  refine wpAny_call (codeAny_mono (F.go X.A X.stack s H ⟨us, []⟩ us vs Q _ hr hg I.env0 hbd r hsp) fun r s' hq => ?_)
  cases r with
  | error e => exact tk e s' (XE.of_call I (fun _ _ _ z => z) hq)
  | ok fl =>
    cases fl with
    | ret u => exact I.after hq
    | next => exact False.elim hq
    | brk => exact False.elim hq
    | cont => exact False.elim hq
/-! ### f(e, ..) -/
theorem I_call {g : String} {x : Str} {p pos : Pos} {e : Expr} {es : List Expr} {cs : List E} (hcl : GroC cl) (F : Cal X.prog X.w X.K X.mg X.base CT cl k (.f g) a) (hr : Room k X.A) (hgd : X.A.guards = some []) (tk : Takes X W) (hg : Gl X x) (hm : X.mg x = some (.ref a)) (hk : PySem.W.keepIn X.K (.ref a) = true)
    (ha : PA X (e :: es) (tA X.K CT cl W cs)) (hdb : (x == ("__debug__" : Str)) = false) (he : starEach (e :: es) X.env = (false, eval e X.env) :: starEach es X.env) (hpl : (backTo pos (starEach es X.env)).any (·.1) = false) :
    PE X (.Call (.Name x p) (e :: es) [] pos) (tE X.K CT cl W (.call g cs)) := by
  refine ⟨fun pins s σ H Q I ⟨m, G, h, ρ, R, sr, q⟩ => ?_⟩
  simp only [ev] at q
  refine wpAny_Call_Name_kw (ld_glob I hg hm ?_ hdb)
  refine PySem.W.callWith_K (h₀ := X.base) I.ok.mod.kin hk (thn (ha.run pos pins s σ H _ I (tA_first (Q1 := fun vs H1 => ∃ m1 G1 h1 pvs, HR X.K CT m1 G1 H1 h1 ∧ RelL X.K m1 h1.length G1 pvs vs ∧ Post X.K CT (Rel X.K) W σ m1 G1 h1.length Q (cl (.f g) pvs h1)) hcl R sr q
    fun x v h1 m1 G1 H1 _ _ _ R1 _ rl q1 => ⟨m1, G1, h1, x, R1, rl, q1⟩)) fun us s1 ⟨vs, H1, I1, r, m1, G1, h1, pvs, R1, rl, q1⟩ => ⟨I1.kIn, ?_⟩) he hpl
  exact run_cal F hr hgd tk I1 r R1 rl q1
theorem I_call0 {g : String} {x : Str} {p pos : Pos} (F : Cal X.prog X.w X.K X.mg X.base CT cl k (.f g) a) (hr : Room k X.A) (hgd : X.A.guards = some []) (tk : Takes X W) (hg : Gl X x) (hm : X.mg x = some (.ref a)) (hk : PySem.W.keepIn X.K (.ref a) = true) (hdb : (x == ("__debug__" : Str)) = false) :
    PE X (.Call (.Name x p) [] [] pos) (tE X.K CT cl W (.call g [])) := by
  refine ⟨fun pins s σ H Q I ⟨m, G, h, ρ, R, sr, q⟩ => ?_⟩
  simp only [ev, evs, bind_ok] at q
  refine wpAny_Call_Name_kw (ld_glob I hg hm ?_ hdb)
  exact PySem.W.callWith_K0 I.kIn hk (run_cal (us := []) F hr hgd tk I .nil R .nil q)
/-! ### o.m(e, ..), o.f of an own class -/
/-- the methods m of the classes cs: where they stand, that they keep their promises -/
structure Mto (P : Program) (w : World) (K : PySem.W.Frag) (mg : Str → Option Value) (base : Heap) (CT : Cts) (cl : Cl) (k : Nat) (m : String) (cs : List String) : Prop where
  ex : ∀ c, c ∈ cs → ∀ C, CT.ins c C → ∃ g, Cls K C ∧ Meth K C (Str.ofString m) g ∧ Cal P w K mg base CT cl k (.m c m) g
theorem look_rel {K : PySem.W.Frag} {m : Nat → Addr} {N : Nat} {G : Hp} {f : String} : ∀ {fs : List (String × PV)} {gs : List (Str × V)}, RelF K m N G fs gs → (∀ x, fs.lookup f = some x → ∃ v, gs.lookup (Str.ofString f) = some v ∧ Rel K m N G x v) ∧ (fs.lookup f = none → gs.lookup (Str.ofString f) = none)
  | [], [], _ => ⟨fun x e => (by cases e), fun _ => rfl⟩
  | (g, x) :: r, (g', v) :: t, ⟨e, rx, rr⟩ => by
    obtain ⟨i1, i2⟩ := look_rel (f := f) rr
    subst e
    by_cases hf : f = g
    · subst hf
      refine ⟨fun y q => ?_, fun q => ?_⟩
      · obtain rfl : x = y := by simpa [List.lookup] using q
        exact ⟨v, by simp [List.lookup], rx⟩
      · simp [List.lookup] at q
    · have h1 : (f == g) = false := by simpa using hf
      have h2 : (Str.ofString f == Str.ofString g) = false := by
        rw [beq_eq_false_iff_ne]
        exact fun z => hf (ofString_inj z)
      refine ⟨fun y q => ?_, fun q => ?_⟩
      · simp only [List.lookup, h1] at q
        simp only [List.lookup, h2]
        exact i1 y q
      · simp only [List.lookup, h1] at q
        simp only [List.lookup, h2]
        exact i2 q
end
end Mi

set_option Elab.async false
set_option linter.all false
set_option maxRecDepth 100000
/-! Mi10: methods, properties, attributes, operators, displays, tests: what an expression of the text is to the small interpreter. -/
namespace Mi
open PySem PySem.Spec PyProof.Rows L2
section
variable {X : Cx} {CT : Cts} {cl : Cl} {W : WX} {k : Nat} {a : Addr} {e e1 e2 e3 : Expr} {es : List Expr} {c c1 c2 c3 : E} {cs : List E} {pos apos p : Pos}
/-! ### attributes -/
theorem I_fld {f : String} {x : Str} (hx : x = Str.ofString f) (hcl : GroC cl) (cls : ∀ c C, CT.ins c C → Cls X.K C ∧ NoAttr X.K C x) (exc : ∀ c C, CT.exc c C → XfC X.K C ∧ PySem.W.findIn X.K (.ref C) x = some none) (he : PE X e (tE X.K CT cl W c)) (hb : attributeBase e x X.env (eval e X.env) = eval e X.env) : PE X (.Attribute e x pos) (tE X.K CT cl W (.fld c f)) := by
  subst hx
  refine PEimp (pe_fldE he hb) fun σ H Q ⟨m, G, h, ρ, R, s, q⟩ => ?_
  simp only [ev] at q
  refine tE_first hcl R s q fun x v h1 m1 G1 H1 _ _ _ R1 _ r q1 => ?_
  unfold fldV at q1
  split at q1
  · rename_i n
    obtain ⟨rfl, hn⟩ := r.ref_inv
    split at q1
    · rename_i c0 fs ek
      obtain ⟨C, dx, gs, ct, hH, rf⟩ := R1.ins ek
      obtain ⟨y, ey, q2⟩ := oneR_parts q1 R1
      obtain ⟨w, ew, rw'⟩ := (look_rel rf).1 y ey
      exact .inl ⟨_, C, dx, gs, w, rfl, hH, (cls c0 C ct).1, (cls c0 C ct).2, ew, q2 w rw'⟩
    · rename_i c0 fs ek
      obtain ⟨C, d, ct, hG, hf⟩ := R1.obj n _ ek
      obtain ⟨y, ey, q2⟩ := oneR_parts q1 R1
      rcases hf with ⟨e0, _⟩ | ⟨dd, gs, rfl, h2, rf⟩
      · rw [e0] at ey
        cases ey
      · obtain ⟨w, ew, rw'⟩ := (look_rel rf).1 y ey
        exact .inr ⟨_, C, dd, gs, w, rfl, R1.sub _ _ hG, R1.sub _ _ h2, (exc c0 C ct).1, (exc c0 C ct).2, ew, q2 w rw'⟩
    · exact q1.elim
  · exact q1.elim
theorem cls_of {o : PV} {f c : String} {ks : List String} {h : PH} (e : clsOf o f ks h = some c) : ∃ n fs, o = .ref n ∧ h[n]? = some (.ins c fs) ∧ fs.lookup f = none ∧ c ∈ ks := by
  unfold clsOf at e
  split at e
  · rename_i n
    split at e
    · rename_i c0 fs ek
      split at e
      · rename_i hl
        obtain rfl : c0 = c := by simpa using e
        exact ⟨n, fs, rfl, ek, hl.1, hl.2⟩
      · cases e
    · cases e
  · cases e
/-- o.m(e, ..) of an own class -/
theorem I_mto {m : String} {ks : List String} {x : Str} {pl : Sem Bool} (hx : x = Str.ofString m) (hcl : GroC cl) (M : Mto X.prog X.w X.K X.mg X.base CT cl k m ks) (hr : Room k X.A) (hgd : X.A.guards = some []) (tk : Takes X W) (ho : PE X e1 (tE X.K CT cl W c)) (ha : PA X (e :: es) (tA X.K CT cl W cs))
    (hst : starEach (e :: es) X.env = (false, eval e X.env) :: starEach es X.env) (hpl : (backTo pos (starEach es X.env)).any (·.1) = false)
    (ht : eval (.Call (.Attribute e1 x apos) (e :: es) [] pos) X.env = (do
      let ov ← eval e1 X.env
      standAt apos.atName
      let (f, first) ← holding [ov] (getMethod ov x pl)
      callWith pos f first (backTo pos (starEach (e :: es) X.env)) (backToKw pos (keywordEach [] X.env)))) :
    PE X (.Call (.Attribute e1 x apos) (e :: es) [] pos) (tE X.K CT cl W (.mto m ks c cs)) := by
  subst hx
  refine ⟨fun pins s σ H Q I ⟨m0, G, h, ρ, R, sr, q⟩ => ?_⟩
  simp only [ev] at q
  refine PySem.W.methodCall_KW (pl := pl) (thn (ho.run pins s σ H _ I (tE_first (Q1 := fun v H1 => ∃ m1 G1 h1 px, HR X.K CT m1 G1 H1 h1 ∧ SR X.K m1 h1.length G1 ρ σ ∧ Rel X.K m1 h1.length G1 px v ∧ Post X.K CT (Rel X.K) W σ m1 G1 h1.length Q (match clsOf px m ks h1 with
    | some c => (evs cl cs ρ h1).bind fun vs h2 => cl (.m c m) (px :: vs) h2
    | none => .bad)) hcl R sr q fun x v h1 m1 G1 H1 _ _ _ R1 s1 r q1 => ⟨m1, G1, h1, x, R1, s1, r, q1⟩)) fun u s1 ⟨v, H1, I1, rv, m1, G1, h1, px, R1, sr1, r1, q1⟩ => ?_) ht
  split at q1
  · rename_i c0 hc0
    obtain ⟨n, fs, rfl, ek, hl, hk⟩ := cls_of hc0
    obtain ⟨rfl, hn⟩ := r1.ref_inv
    cases rv
    obtain ⟨C, dx, gs, ct, hH, rf⟩ := R1.ins ek
    obtain ⟨g, hc, hm, F⟩ := M.ex c0 hk C ct
    refine getmeth_ok I1 hH hc hm ((look_rel rf).2 hl) ?_
    refine PySem.W.callWith_K (first := [.ref (m1 n)]) (h₀ := X.base) I1.ok.mod.kin hm.kp (thn (ha.run pos pins s1 σ H1 _ I1 (tA_first (Q1 := fun vs H2 => ∃ m2 G2 h2 pvs, HR X.K CT m2 G2 H2 h2 ∧ RelL X.K m2 h2.length G2 (.ref n :: pvs) (.ref (m1 n) :: vs) ∧ Post X.K CT (Rel X.K) W σ m2 G2 h2.length Q (cl (.m c0 m) (.ref n :: pvs) h2)) hcl R1 sr1 q1
      fun x v h2 m2 G2 H2 ex sg le R2 _ rl q2 => ⟨m2, G2, h2, x, R2, .cons (r1.mono ex le sg) rl, q2⟩)) fun us s2 ⟨vs, H2, I2, r, m2, G2, h2, pvs, R2, rl, q2⟩ => ⟨I2.kIn, ?_⟩) hst hpl
    exact run_cal (us := .ref (m1 n) :: us) (vs := .ref (m1 n) :: vs) F hr hgd tk I2 (.cons rfl r) R2 rl q2
  · exact q1.elim
theorem I_mto0 {m : String} {ks : List String} {x : Str} {pl : Sem Bool} (hx : x = Str.ofString m) (hcl : GroC cl) (M : Mto X.prog X.w X.K X.mg X.base CT cl k m ks) (hr : Room k X.A) (hgd : X.A.guards = some []) (tk : Takes X W) (ho : PE X e1 (tE X.K CT cl W c))
    (ht : eval (.Call (.Attribute e1 x apos) [] [] pos) X.env = (do
      let ov ← eval e1 X.env
      standAt apos.atName
      let (f, first) ← holding [ov] (getMethod ov x pl)
      callWith pos f first (backTo pos (starEach [] X.env)) (backToKw pos (keywordEach [] X.env)))) :
    PE X (.Call (.Attribute e1 x apos) [] [] pos) (tE X.K CT cl W (.mto m ks c [])) := by
  subst hx
  refine ⟨fun pins s σ H Q I ⟨m0, G, h, ρ, R, sr, q⟩ => ?_⟩
  simp only [ev, evs, bind_ok] at q
  refine PySem.W.methodCall_KW (pl := pl) (thn (ho.run pins s σ H _ I (tE_first (Q1 := fun v H1 => ∃ m1 G1 h1 px, HR X.K CT m1 G1 H1 h1 ∧ Rel X.K m1 h1.length G1 px v ∧ Post X.K CT (Rel X.K) W σ m1 G1 h1.length Q (match clsOf px m ks h1 with
    | some c => cl (.m c m) [px] h1
    | none => .bad)) hcl R sr q fun x v h1 m1 G1 H1 _ _ _ R1 s1 r q1 => ⟨m1, G1, h1, x, R1, r, q1⟩)) fun u s1 ⟨v, H1, I1, rv, m1, G1, h1, px, R1, r1, q1⟩ => ?_) ht
  split at q1
  · rename_i c0 hc0
    obtain ⟨n, fs, rfl, ek, hl, hk⟩ := cls_of hc0
    obtain ⟨rfl, hn⟩ := r1.ref_inv
    cases rv
    obtain ⟨C, dx, gs, ct, hH, rf⟩ := R1.ins ek
    obtain ⟨g, hc, hm, F⟩ := M.ex c0 hk C ct
    refine getmeth_ok I1 hH hc hm ((look_rel rf).2 hl) ?_
    exact PySem.W.callWith_K0 (first := [.ref (m1 n)]) I1.kIn hm.kp (run_cal (us := [.ref (m1 n)]) (vs := [.ref (m1 n)]) F hr hgd tk I1 (.cons rfl .nil) R1 (.cons r1 .nil) q1)
  · exact q1.elim
/-- o.f, a property of an own class -/
structure Prp (P : Program) (w : World) (K : PySem.W.Frag) (mg : Str → Option Value) (base : Heap) (CT : Cts) (cl : Cl) (k : Nat) (f : String) (cs : List String) : Prop where
  ex : ∀ c, c ∈ cs → ∀ C, CT.ins c C → ∃ pr g, Cls K C ∧ PropOf K C (Str.ofString f) pr g ∧ Cal P w K mg base CT cl k (.m c f) g
theorem Post.nox {α β : Type} {K : PySem.W.Frag} {rel : (Nat → Addr) → Nat → Hp → α → β → Prop} {m : Nat → Addr} {G : Hp} {N : Nat} {σ σ' : L2.St} {W W' : WX} {Q : β → Hp → Prop} {r : R α} (p : Post K CT rel W σ m G N Q (nox r)) : Post K CT rel W' σ' m G N Q r := by
  cases r with
  | ok a h' => exact p
  | exc x h' => exact p.elim
  | bad => exact p
theorem I_prop {f : String} {ks : List String} {x : Str} (hx : x = Str.ofString f) (hcl : GroC cl) (M : Prp X.prog X.w X.K X.mg X.base CT cl k f ks) (hr : Room (k + 1) X.A) (hgd : X.A.guards = some []) (he : PE X e (tE X.K CT cl W c)) (hb : attributeBase e x X.env (eval e X.env) = eval e X.env) :
    PE X (.Attribute e x pos) (tE X.K CT cl W (.prop f ks c)) := by
  subst hx
  refine ⟨fun pins s σ H Q I ⟨m0, G, h, ρ, R, sr, q⟩ => ?_⟩
  simp only [ev] at q
  refine attr_of hb (thn (he.run pins s σ H _ I (tE_first (Q1 := fun v H1 => ∃ m1 G1 h1 px, HR X.K CT m1 G1 H1 h1 ∧ Rel X.K m1 h1.length G1 px v ∧ Post X.K CT (Rel X.K) W σ m1 G1 h1.length Q (match clsOf px f ks h1 with
    | some c => nox (cl (.m c f) [px] h1)
    | none => .bad)) hcl R sr q fun x v h1 m1 G1 H1 _ _ _ R1 s1 r q1 => ⟨m1, G1, h1, x, R1, r, q1⟩)) fun u s1 ⟨v, H1, I1, rv, m1, G1, h1, px, R1, r1, q1⟩ => ?_)
  split at q1
  · rename_i c0 hc0
    obtain ⟨n, fs, rfl, ek, hl, hk⟩ := cls_of hc0
    obtain ⟨rfl, hn⟩ := r1.ref_inv
    cases rv
    obtain ⟨C, dx, gs, ct, hH, rf⟩ := R1.ins ek
    obtain ⟨pr, g, hc, hp, F⟩ := M.ex c0 hk C ct
    obtain ⟨fd, ps, F, hbd⟩ := F.ex
    obtain ⟨mA, O, _⟩ := ins_get I1.hok hH
    obtain ⟨od, J, _⟩ := O.look
    obtain ⟨rest, hrec⟩ := hp.rec_
    have I2 := I1.tok (s1.toks + 1)
    have hsp : spI X.K CT cl (.m c0 f) [V.ref (m1 n)] H1 Q (fun _ _ _ => False) := ⟨m1, G1, h1, [.ref n], R1, .cons r1 .nil, q1.nox⟩
    have hl1 : [Value.ref (m1 n)].length = ps.length := F.ar _ _ _ _ hsp
    have hbt : BindsTo { s1 with toks := s1.toks + 1 } fd ⟨[.ref (m1 n)], []⟩ (ps.zip [.ref (m1 n)]) := by
      have z := hbd { s1 with toks := s1.toks + 1 } [.ref (m1 n)] I2.kIn (by rw [List.append_nil]; exact hl1)
      rw [List.append_nil] at z
      exact z
    have hcd : (PySem.W.clsIn X.K C).isSome = true := by
      obtain ⟨cd, z, _⟩ := PySem.W.any_some hc.hd
      rw [z]
      rfl
    have pg := PySem.W.plainGet_of (hc.get (Str.ofString f))
    refine PySem.W.get_bind I1.kIn J pg.1 (PySem.W.findObj_data hcd hp.at_ hp.get hp.tak) pg.2 (wpAny_call (PySem.W.prop_get (s := { s1 with toks := s1.toks + 1 }) I1.kIn hrec ?_))
    refine codeAny_mono (F.go X.A.in1 X.stack { s1 with toks := s1.toks + 1 } H1 ⟨[.ref (m1 n)], []⟩ [.ref (m1 n)] [.ref (m1 n)] Q _ hr.in1 hgd I2.env0.in1 hbt (.cons rfl .nil) hsp) fun r s' hq => ?_
    cases r with
    | error er =>
      have z : False := by
        obtain ⟨_, _, _, _, _, _, _, _, _, _, _, _, z⟩ := hq
        exact z
      exact z.elim
    | ok fl =>
      cases fl with
      | ret u =>
        obtain ⟨v', H', I3, rv', q3⟩ := I2.after hq
        show wpAny _ _ (handedOut u) _ _ _
        rw [PySem.W.handedOut_of (handed_of rv')]
        exact wpAny_pure ⟨v', H', I3, rv', q3⟩
      | next => exact False.elim hq
      | brk => exact False.elim hq
      | cont => exact False.elim hq
  · exact q1.elim
end
end Mi

set_option Elab.async false
set_option linter.all false
set_option maxRecDepth 100000
/-! Mi11: operators, tests, displays, built-ins: what an expression of the text is to the small interpreter. -/
namespace Mi
open PySem PySem.Spec PyProof.Rows L2
section
variable {X : Cx} {CT : Cts} {cl : Cl} {W : WX} {k : Nat} {a : Addr} {e e1 e2 e3 : Expr} {es : List Expr} {c c1 c2 c3 : E} {cs : List E} {pos apos p : Pos}
/-- two parts, then an operator by values -/
theorem two_first {rr : R2} {f : PV → PV → PH → R PV} {σ : L2.St} {H : Hp} {Q : VK} {m : Nat → Addr} {G : Hp} {h : PH} {ρ : Mi.Env} (hcl : GroC cl) (R : HR X.K CT m G H h) (s : SR X.K m h.length G ρ σ)
    (q : Post X.K CT (Rel X.K) W σ m G h.length Q ((ev cl c1 ρ h).bind fun x h1 => (ev cl c2 ρ h1).bind fun y h2 => f x y h2))
    (hr : ∀ x y H2 Q, (∃ m G h px py σ, HR X.K CT m G H2 h ∧ Rel X.K m h.length G px x ∧ Rel X.K m h.length G py y ∧ Post X.K CT (Rel X.K) W σ m G h.length Q (f px py h)) → rr x y H2 Q) : tOp rr (tE X.K CT cl W c1) (tE X.K CT cl W c2) σ H Q :=
  tE_first hcl R s q fun x v h1 m1 G1 H1 _ _ _ R1 s1 r1 q1 => tE_first hcl R1 s1 q1 fun y u h2 m2 G2 H2 ex sg le R2 s2 r2 q2 => hr _ _ _ _ ⟨m2, G2, h2, x, y, σ, R2, r1.mono ex le sg, r2, q2⟩
theorem I_bop {o : BOp} {op : Operator} (ho : op = boOp o) (hcl : GroC cl) (h1 : PE X e1 (tE X.K CT cl W c1)) (h2 : PE X e2 (tE X.K CT cl W c2)) : PE X (.BinOp e1 op e2 pos) (tE X.K CT cl W (.bop o c1 c2)) := by
  subst ho
  refine PEimp (pe_op (op_B (CT := CT) (W := W) o) h1 h2) fun σ H Q ⟨m, G, h, ρ, R, s, q⟩ => ?_
  simp only [ev] at q
  exact two_first hcl R s q fun _ _ _ _ z => z
theorem I_cmp {o : COp} {op : CmpOp} (ho : op = coOp o) (hu : X.A.units + 65 < cLine) (hcl : GroC cl) (h1 : PE X e1 (tE X.K CT cl W c1)) (h2 : PE X e2 (tE X.K CT cl W c2)) (hm : behindInMarks op e2 = false) : PE X (.Compare e1 [op] [e2] pos) (tE X.K CT cl W (.cmp o c1 c2)) := by
  subst ho
  refine PEimp (pe_cmpR (op_C (CT := CT) (W := W) hu o) h1 h2 hm) fun σ H Q ⟨m, G, h, ρ, R, s, q⟩ => ?_
  simp only [ev] at q
  exact two_first hcl R s q fun _ _ _ _ z => z
theorem I_idx (hu : X.A.units + 1 < cLine) (hcl : GroC cl) (h1 : PE X e1 (tE X.K CT cl W c1)) (h2 : PE X e2 (tE X.K CT cl W c2)) (hs : PlainIx e2) : PE X (.Subscript e1 e2 pos) (tE X.K CT cl W (.idx c1 c2)) := by
  refine PEimp (pe_ix (ix_all (CT := CT) (W := W) hu) h1 h2 hs) fun σ H Q ⟨m, G, h, ρ, R, s, q⟩ => ?_
  simp only [ev] at q
  exact two_first hcl R s q fun _ _ _ _ z => z
theorem I_neg (hcl : GroC cl) (h1 : PE X e1 (tE X.K CT cl W c1)) : PE X (.UnaryOp .USub e1 pos) (tE X.K CT cl W (.neg c1)) := by
  refine PEimp (pe_un un_neg h1) fun σ H Q ⟨m, G, h, ρ, R, s, q⟩ => ?_
  simp only [ev] at q
  refine tE_first hcl R s q fun x v h1 m1 G1 H1 _ _ _ R1 s1 r1 q1 => ?_
  split at q1
  · obtain rfl := r1.int_inv
    exact ⟨_, rfl, Post.now q1 R1 (.int _)⟩
  · exact q1.elim
/-! ### slices -/
theorem I_part0 : L2.PO X none (tO X.K CT cl W none) := ⟨fun pins s σ H Q I ⟨m, G, h, ρ, R, sr, q⟩ => by
  simp only [evo] at q
  exact po_none.run pins s σ H Q I (Post.now q R rfl)⟩
theorem I_part (hcl : GroC cl) (h1 : PE X e1 (tE X.K CT cl W c1)) : L2.PO X (some e1) (tO X.K CT cl W (some c1)) := ⟨fun pins s σ H Q I ⟨m, G, h, ρ, R, sr, q⟩ => by
  simp only [evo] at q
  refine (po_some h1).run pins s σ H Q I (tE_first hcl R sr q fun x v h1 m1 G1 H1 _ _ _ R1 s1 r1 q1 => ?_)
  split at q1
  · obtain rfl := r1.int_inv
    exact ⟨_, rfl, Post.now q1 R1 rfl⟩
  · exact q1.elim⟩
theorem I_slc {lo hi : Option Expr} {c2 c3 : Option E} {p2 : Pos} (hcl : GroC cl) (h1 : PE X e1 (tE X.K CT cl W c1)) (h2 : L2.PO X lo (tO X.K CT cl W c2)) (h3 : L2.PO X hi (tO X.K CT cl W c3)) : PE X (.Subscript e1 (.Slice lo hi none p2) pos) (tE X.K CT cl W (.slc c1 c2 c3)) := by
  refine PEimp (pe_slice (sl_all (CT := CT) (W := W)) h1 h2 h3) fun σ H Q ⟨m, G, h, ρ, R, s, q⟩ => ?_
  simp only [ev] at q
  exact tE_first hcl R s q fun x v h1 m1 G1 H1 _ _ _ R1 s1 r1 q1 => tO_first hcl R1 s1 q1 fun i h2 m2 G2 H2 x2 g2 l2 R2 s2 q2 => tO_first hcl R2 s2 q2 fun j h3 m3 G3 H3 x3 g3 l3 R3 s3 q3 =>
    ⟨m3, G3, h3, x, σ, R3, (r1.mono x2 l2 g2).mono x3 l3 g3, q3⟩
/-! ### displays, arguments -/
theorem I_args0 : PA X [] (tA X.K CT cl W []) := PAimp pa_nil fun σ H Q ⟨m, G, h, ρ, R, s, q⟩ => by
  simp only [evs] at q
  exact Post.now q R .nil
theorem I_args (hcl : GroC cl) (h1 : PE X e1 (tE X.K CT cl W c1)) (h2 : PA X es (tA X.K CT cl W cs)) (hs : starEach (e1 :: es) X.env = (false, eval e1 X.env) :: starEach es X.env) : PA X (e1 :: es) (tA X.K CT cl W (c1 :: cs)) :=
  PAimp (pa_cons h1 h2 hs) fun σ H Q ⟨m, G, h, ρ, R, s, q⟩ => by
    simp only [evs] at q
    exact tE_first hcl R s q fun x v h1 m1 G1 H1 _ _ _ R1 s1 r1 q1 => tA_first hcl R1 s1 q1 fun y u h2 m2 G2 H2 x2 g2 l2 R2 s2 r2 q2 => Post.now q2 R2 (.cons (r1.mono x2 l2 g2) r2)
theorem I_tup {x1} (hcl : GroC cl) (h1 : PA X es (tA X.K CT cl W cs)) : PE X (.Tuple es x1 pos) (tE X.K CT cl W (.tup cs)) :=
  PEimp (pe_tup h1) fun σ H Q ⟨m, G, h, ρ, R, s, q⟩ => by
    simp only [ev] at q
    refine tA_first hcl R s q fun x v h1 m1 G1 H1 _ _ _ R1 s1 r1 q1 => ?_
    split at q1
    · rename_i hl
      exact ⟨by rw [← r1.length, ← szl_eq]; exact hl, fun pp hp => Post.newT q1 R1 r1 hp⟩
    · exact q1.elim
theorem I_lst (hcl : GroC cl) (h1 : PA X es (tA X.K CT cl W cs)) : PE X (.List es pos) (tE X.K CT cl W (.lst cs)) :=
  PEimp (pe_lst h1) fun σ H Q ⟨m, G, h, ρ, R, s, q⟩ => by
    simp only [ev] at q
    refine tA_first hcl R s q fun x v h1 m1 G1 H1 _ _ _ R1 s1 r1 q1 => ?_
    split at q1
    · rename_i hl
      exact ⟨by rw [← r1.length, ← szl_eq]; exact hl, fun pp hp => Post.newL q1 R1 r1 hp⟩
    · exact q1.elim
theorem I_dct0 : PE X (.Dict [] [] pos) (tE X.K CT cl W (.dct [] [])) :=
  PEimp pe_dnewK fun σ H Q ⟨m, G, h, ρ, R, s, q⟩ pp hp => by
    simp only [ev] at q
    have R' := R.new (o := .dic []) hp (keep_upd hp) ⟨[], upd_same, trivial⟩ rfl
    have z : Rel X.K (mx m h.length pp) (h ++ [PO.dic []]).length G (.ref h.length) (.ref (mx m h.length pp h.length)) := .ref (by rw [List.length_append]; simp)
    rw [mx_new] at z
    exact q _ G _ _ mx_ex Sub.refl R' z
/-! ### tests -/
theorem I_tst (hcl : GroC cl) (h1 : PE X e (tE X.K CT cl W c)) (he : ∀ whole, isTrue e X.env whole = (do let v ← whole; standAt e.pos; holding [v] (truthy v))) : PT X e (tT X.K CT cl W c) :=
  PTimp (pt_truth h1 he) fun σ H Q ⟨m, G, h, ρ, R, s, q⟩ => by
    unfold tst at q
    refine tE_first hcl R s q fun x v h1 m1 G1 H1 _ _ _ R1 s1 r1 q1 => ?_
    obtain ⟨b, e, q2⟩ := truR_parts q1 R1
    exact ⟨b, tru_ok R1 r1 e, q2⟩
theorem tst_cmp {o : COp} {ρ : Mi.Env} {h : PH} : tst cl (.cmp o c1 c2) ρ h = (ev cl c1 ρ h).bind fun x h1 => (ev cl c2 ρ h1).bind fun y h2 => (cmpV o x y h2).bind fun z h3 => truR z h3 := by
  unfold tst
  simp only [ev]
  cases ev cl c1 ρ h with
  | ok x h1 =>
    simp only [bind_ok]
    cases ev cl c2 ρ h1 <;> rfl
  | _ => rfl
theorem cmpV_bl {o : COp} {x y : PV} {h : PH} : (∃ b, cmpV o x y h = .ok (.bl b) h) ∨ cmpV o x y h = .bad := by
  unfold cmpV bR nbR
  (repeat' split) <;> first | exact .inl ⟨_, rfl⟩ | exact .inr rfl
theorem I_tcmp {o : COp} {op : CmpOp} (ho : op = coOp o) (hu : X.A.units + 65 < cLine) (hcl : GroC cl) (h1 : PE X e1 (tE X.K CT cl W c1)) (h2 : PE X e2 (tE X.K CT cl W c2)) (hm : behindInMarks op e2 = false) : PT X (.Compare e1 [op] [e2] pos) (tT X.K CT cl W (.cmp o c1 c2)) := by
  subst ho
  refine PTimp (pt_cmpR (op_C (CT := CT) (W := W) hu o) h1 h2 hm) fun σ H Q ⟨m, G, h, ρ, R, s, q⟩ => ?_
  rw [tst_cmp] at q
  refine tE_first hcl R s q fun x v h1 m1 G1 H1 _ _ _ R1 s1 r1 q1 => tE_first hcl R1 s1 q1 fun y u h2 m2 G2 H2 ex sg le R2 s2 r2 q2 => ⟨m2, G2, h2, x, y, σ, R2, r1.mono ex le sg, r2, ?_⟩
  rcases cmpV_bl (o := o) (x := x) (y := y) (h := h2) with ⟨b, eb⟩ | eb
  · rw [eb] at q2 ⊢
    intro m' G' H' b' x3 g3 R3 r3
    obtain rfl := r3.bl_inv
    exact ⟨b, rfl, q2 m' G' H' b x3 g3 R3 rfl⟩
  · rw [eb] at q2
    exact q2.elim
theorem I_tnot (hcl : GroC cl) (h1 : PT X e (tT X.K CT cl W c)) : PT X (.UnaryOp .Not e pos) (tT X.K CT cl W (.nt c)) :=
  PTimp (pt_not h1) fun σ H Q ⟨m, G, h, ρ, R, s, q⟩ => by
    have z : tst cl (.nt c) ρ h = (tst cl c ρ h).bind fun b h1 => .ok (!b) h1 := by
      unfold tst
      simp only [ev]
      cases ev cl c ρ h with
      | ok x h1 =>
        simp only [bind_ok]
        cases e : truR x h1 with
        | ok b h2 =>
          simp only [bind_ok]
          rfl
        | _ => rfl
      | _ => rfl
    rw [z] at q
    exact tT_first hcl R s q fun b h1 m1 G1 H1 _ _ _ R1 s1 q1 => Post.now q1 R1 rfl
/-! ### and, or, not, if else -/
theorem tst_and {ρ : Mi.Env} {h : PH} : tst cl (.and c1 c2) ρ h = (tst cl c1 ρ h).bind fun b h1 => if b then tst cl c2 ρ h1 else .ok false h1 := by
  unfold tst
  simp only [ev]
  cases ev cl c1 ρ h with
  | ok x h1 =>
    simp only [bind_ok]
    cases e : truR x h1 with
    | ok b h2 =>
      have hb : h2 = h1 ∧ tru x h1 = some b := by
        unfold truR at e
        cases z : tru x h1 with
        | none => rw [z] at e; cases e
        | some t => rw [z] at e; injection e with e1 e2; exact ⟨e2.symm, by rw [e1]⟩
      obtain ⟨rfl, hb⟩ := hb
      cases b with
      | true => simp
      | false =>
        simp only [bind_ok]
        unfold truR
        rw [if_neg (by simp), if_neg (by simp)]
        simp [hb]
    | _ => rfl
  | _ => rfl
theorem tst_or {ρ : Mi.Env} {h : PH} : tst cl (.or c1 c2) ρ h = (tst cl c1 ρ h).bind fun b h1 => if b then .ok true h1 else tst cl c2 ρ h1 := by
  unfold tst
  simp only [ev]
  cases ev cl c1 ρ h with
  | ok x h1 =>
    simp only [bind_ok]
    cases e : truR x h1 with
    | ok b h2 =>
      have hb : h2 = h1 ∧ tru x h1 = some b := by
        unfold truR at e
        cases z : tru x h1 with
        | none => rw [z] at e; cases e
        | some t => rw [z] at e; injection e with e1 e2; exact ⟨e2.symm, by rw [e1]⟩
      obtain ⟨rfl, hb⟩ := hb
      cases b with
      | false => simp
      | true => simp [truR, hb]
    | _ => rfl
  | _ => rfl
theorem tT_if {b : Bool} {σ : L2.St} {H : Hp} {Q : Bool → Hp → Prop} {m : Nat → Addr} {G : Hp} {h : PH} {ρ : Mi.Env} (R : HR X.K CT m G H h) (s : SR X.K m h.length G ρ σ) (q : Post X.K CT relB W σ m G h.length Q (tst cl c ρ h)) : tT X.K CT cl W c σ H Q := ⟨m, G, h, ρ, R, s, q⟩
theorem I_wand {b : Expr} {rest : List Expr} (hcl : GroC cl) (h1 : PT X e (tT X.K CT cl W c1)) (h2 : PW X (.BoolOp .And (b :: rest) pos) (tT X.K CT cl W c2)) : PW X (.BoolOp .And (e :: b :: rest) pos) (tT X.K CT cl W (.and c1 c2)) :=
  ⟨fun whole pins s σ H Q I ⟨m, G, h, ρ, R, sr, q⟩ => (pw_and h1 h2).run whole pins s σ H Q I (by
    rw [tst_and] at q
    refine tT_first hcl R sr q fun b h1 m1 G1 H1 _ _ _ R1 s1 q1 => ?_
    cases b with
    | true => rw [if_pos rfl] at q1 ⊢; exact ⟨m1, G1, h1, ρ, R1, s1, q1⟩
    | false => rw [if_neg (by simp)] at q1 ⊢; exact Post.now q1 R1 rfl)⟩
theorem I_wor {b : Expr} {rest : List Expr} (hcl : GroC cl) (h1 : PT X e (tT X.K CT cl W c1)) (h2 : PW X (.BoolOp .Or (b :: rest) pos) (tT X.K CT cl W c2)) : PW X (.BoolOp .Or (e :: b :: rest) pos) (tT X.K CT cl W (.or c1 c2)) :=
  ⟨fun whole pins s σ H Q I ⟨m, G, h, ρ, R, sr, q⟩ => (pw_or h1 h2).run whole pins s σ H Q I (by
    rw [tst_or] at q
    refine tT_first hcl R sr q fun b h1 m1 G1 H1 _ _ _ R1 s1 q1 => ?_
    cases b with
    | true => rw [if_pos rfl] at q1 ⊢; exact Post.now q1 R1 rfl
    | false => rw [if_neg (by simp)] at q1 ⊢; exact ⟨m1, G1, h1, ρ, R1, s1, q1⟩)⟩
theorem PWimp {e : Expr} {t t' : TT} (p : PW X e t) (i : ∀ σ H Q, t' σ H Q → t σ H Q) : PW X e t' := ⟨fun whole pins s σ H Q I h => p.run whole pins s σ H Q I (i σ H Q h)⟩
theorem I_and {b : Expr} {rest : List Expr} (hcl : GroC cl) (h1 : PE X e (tE X.K CT cl W c1)) (h2 : PE X (.BoolOp .And (b :: rest) pos) (tE X.K CT cl W c2)) : PE X (.BoolOp .And (e :: b :: rest) pos) (tE X.K CT cl W (.and c1 c2)) :=
  PEimp (pe_andT h1 h2) fun σ H Q ⟨m, G, h, ρ, R, s, q⟩ => by
    simp only [ev] at q
    refine tE_first hcl R s q fun x v h1 m1 G1 H1 _ _ _ R1 s1 r1 q1 => ?_
    have q1' := Post.bind (rel1 := relB) truR_gro q1
    obtain ⟨b, e, z⟩ := truR_parts q1' R1
    refine ⟨b, tru_ok R1 r1 e, ?_⟩
    have eb : truR x h1 = .ok b h1 := by unfold truR; rw [e]
    rw [eb] at q1
    simp only [bind_ok] at q1
    cases b with
    | true => rw [if_pos rfl] at q1 ⊢; exact ⟨m1, G1, h1, ρ, R1, s1, q1⟩
    | false => rw [if_neg (by simp)] at q1 ⊢; exact Post.now q1 R1 r1
theorem I_or {b : Expr} {rest : List Expr} (hcl : GroC cl) (h1 : PE X e (tE X.K CT cl W c1)) (h2 : PE X (.BoolOp .Or (b :: rest) pos) (tE X.K CT cl W c2)) : PE X (.BoolOp .Or (e :: b :: rest) pos) (tE X.K CT cl W (.or c1 c2)) :=
  PEimp (pe_orT h1 h2) fun σ H Q ⟨m, G, h, ρ, R, s, q⟩ => by
    simp only [ev] at q
    refine tE_first hcl R s q fun x v h1 m1 G1 H1 _ _ _ R1 s1 r1 q1 => ?_
    have q1' := Post.bind (rel1 := relB) truR_gro q1
    obtain ⟨b, e, z⟩ := truR_parts q1' R1
    refine ⟨b, tru_ok R1 r1 e, ?_⟩
    have eb : truR x h1 = .ok b h1 := by unfold truR; rw [e]
    rw [eb] at q1
    simp only [bind_ok] at q1
    cases b with
    | true => rw [if_pos rfl] at q1 ⊢; exact Post.now q1 R1 r1
    | false => rw [if_neg (by simp)] at q1 ⊢; exact ⟨m1, G1, h1, ρ, R1, s1, q1⟩
theorem I_nt (hcl : GroC cl) (h1 : PE X e (tE X.K CT cl W c)) : PE X (.UnaryOp .Not e pos) (tE X.K CT cl W (.nt c)) :=
  PEimp (pe_notT h1) fun σ H Q ⟨m, G, h, ρ, R, s, q⟩ => by
    simp only [ev] at q
    refine tE_first hcl R s q fun x v h1 m1 G1 H1 _ _ _ R1 s1 r1 q1 => ?_
    have q1' := Post.bind (rel1 := relB) truR_gro q1
    obtain ⟨b, e, z⟩ := truR_parts q1' R1
    refine ⟨b, tru_ok R1 r1 e, ?_⟩
    have eb : truR x h1 = .ok b h1 := by unfold truR; rw [e]
    rw [eb] at q1
    exact Post.now q1 R1 (.bl _)
theorem I_ite (hcl : GroC cl) (h1 : PT X e1 (tT X.K CT cl W c1)) (h2 : PE X e2 (tE X.K CT cl W c2)) (h3 : PE X e3 (tE X.K CT cl W c3)) : PE X (.IfExp e1 e2 e3 pos) (tE X.K CT cl W (.ite c1 c2 c3)) :=
  PEimp (pe_ifExp h1 h2 h3) fun σ H Q ⟨m, G, h, ρ, R, s, q⟩ => by
    have z : ev cl (.ite c1 c2 c3) ρ h = (tst cl c1 ρ h).bind fun t h2 => if t then ev cl c2 ρ h2 else ev cl c3 ρ h2 := by
      unfold tst
      simp only [ev]
      cases ev cl c1 ρ h <;> rfl
    rw [z] at q
    refine tT_first hcl R s q fun b h1 m1 G1 H1 _ _ _ R1 s1 q1 => ?_
    cases b with
    | true => rw [if_pos rfl] at q1 ⊢; exact ⟨m1, G1, h1, ρ, R1, s1, q1⟩
    | false => rw [if_neg (by simp)] at q1 ⊢; exact ⟨m1, G1, h1, ρ, R1, s1, q1⟩
theorem I_chain {o o' : COp} {op op' : CmpOp} (ho : op = coOp o) (ho' : op' = coOp o') (hu : X.A.units + 65 < cLine) (hcl : GroC cl) (h1 : PE X e1 (tE X.K CT cl W c1)) (h2 : PE X e2 (tE X.K CT cl W c2)) (h3 : PE X e3 (tE X.K CT cl W c3)) (hm : lastMarks [op, op'] [e2, e3] = false) :
    PE X (.Compare e1 [op, op'] [e2, e3] pos) (tE X.K CT cl W (.chain o o' c1 c2 c3)) := by
  subst ho ho'
  refine PEimp (pe_chain (op_C (CT := CT) (W := W) hu o) (op_C (CT := CT) (W := W) hu o') h1 h2 h3 hm) fun σ H Q ⟨m, G, h, ρ, R, s, q⟩ => ?_
  simp only [ev] at q
  refine tE_first hcl R s q fun x v h1 m1 G1 H1 _ _ _ R1 s1 r1 q1 => tE_first hcl R1 s1 q1 fun y u h2 m2 G2 H2 x2 g2 l2 R2 s2 r2 q2 => ⟨m2, G2, h2, x, y, σ, R2, r1.mono x2 l2 g2, r2, ?_⟩
  rcases cmpV_bl (o := o) (x := x) (y := y) (h := h2) with ⟨b, eb⟩ | eb
  · rw [eb] at q2 ⊢
    intro m' G' H' b' x3 g3 R3 r3
    obtain rfl := r3.bl_inv
    simp only [bind_ok] at q2
    refine ⟨b, rfl, ?_⟩
    cases b with
    | true =>
      rw [if_pos rfl]
      have q3 := Post.later q2 x3 (Nat.le_refl _) g3
      exact tE_first hcl R3 (s2.mono x3 (Nat.le_refl _) g3) q3 fun z w h4 m4 G4 H4 x4 g4 l4 R4 s4 r4 q4 => ⟨m4, G4, h4, y, z, σ, R4, (r2.mono x3 (Nat.le_refl _) g3).mono x4 l4 g4, r4, q4⟩
    | false =>
      rw [if_neg (by simp)]
      exact q2 m' G' H' _ x3 g3 R3 (.bl _)
  · rw [eb] at q2
    exact q2.elim
end
end Mi

set_option Elab.async false
set_option linter.all false
set_option maxRecDepth 100000
/-! Mi12: and/or at their last part, isinstance, built-ins by values. -/
namespace Mi
open PySem PySem.Spec PyProof.Rows L2
section
variable {X : Cx} {CT : Cts} {cl : Cl} {W : WX} {k : Nat} {a : Addr} {e e1 e2 e3 : Expr} {es : List Expr} {c c1 c2 c3 : E} {cs : List E} {pos apos p : Pos}
theorem I_wand1 (h1 : PT X e (tT X.K CT cl W c)) : PW X (.BoolOp .And [e] pos) (tT X.K CT cl W c) := pw_and1 h1
theorem I_wor1 (h1 : PT X e (tT X.K CT cl W c)) : PW X (.BoolOp .Or [e] pos) (tT X.K CT cl W c) := pw_or1 h1
theorem I_one {op : BoolOp} (h1 : PE X e (tE X.K CT cl W c)) : PE X (.BoolOp op [e] pos) (tE X.K CT cl W c) := pe_one h1
theorem I_tw (h1 : PW X e (tT X.K CT cl W c)) : PT X e (tT X.K CT cl W c) := h1.pt
/-! ### built-ins -/
def rBl (K : PySem.W.Frag) (CT : Cts) (W : WX) (f : String) : List V → Hp → VK → Prop := fun xs H Q => ∃ m G h pvs σ, HR K CT m G H h ∧ RelL K m h.length G pvs xs ∧ Post K CT (Rel K) W σ m G h.length Q (bltV f pvs h)
theorem I_bltB {f id : String} {x : Str} (hcl : GroC cl) (hc : CallR X (.builtin id) (rBl X.K CT W f)) (hg : Gl X x) (hm : X.mg x = none) (hv : bootBuiltins x = some (.builtin id)) (ha : PA X (e :: es) (tA X.K CT cl W cs)) (hn : x ≠ "__name__") (hdb : (x == ("__debug__" : Str)) = false)
    (he : starEach (e :: es) X.env = (false, eval e X.env) :: starEach es X.env) (hpl : (backTo pos (starEach es X.env)).any (·.1) = false) : PE X (.Call (.Name x p) (e :: es) [] pos) (tE X.K CT cl W (.blt f cs)) :=
  PEimp (pe_callB hc hg hm hv ha hn hdb he hpl) fun σ H Q ⟨m, G, h, ρ, R, s, q⟩ => by
    simp only [ev] at q
    exact tA_first hcl R s q fun x v h1 m1 G1 H1 _ _ _ R1 s1 r1 q1 => ⟨m1, G1, h1, x, σ, R1, r1, q1⟩
theorem I_bltT {f id : String} {x : Str} (hcl : GroC cl) (hc : CallR X (.type id) (rBl X.K CT W f)) (hg : Gl X x) (hm : X.mg x = none) (hv : bootBuiltins x = some (.type id)) (ha : PA X (e :: es) (tA X.K CT cl W cs)) (hn : x ≠ "__name__") (hdb : (x == ("__debug__" : Str)) = false)
    (he : starEach (e :: es) X.env = (false, eval e X.env) :: starEach es X.env) (hpl : (backTo pos (starEach es X.env)).any (·.1) = false) : PE X (.Call (.Name x p) (e :: es) [] pos) (tE X.K CT cl W (.blt f cs)) :=
  PEimp (pe_callTy hc hg hm hv ha hn hdb he hpl) fun σ H Q ⟨m, G, h, ρ, R, s, q⟩ => by
    simp only [ev] at q
    exact tA_first hcl R s q fun x v h1 m1 G1 H1 _ _ _ R1 s1 r1 q1 => ⟨m1, G1, h1, x, σ, R1, r1, q1⟩
theorem CallR.imp {f : Value} {r r' : List V → Hp → VK → Prop} (h : CallR X f r) (i : ∀ xs H Q, r' xs H Q → r xs H Q) : CallR X f r' := fun pins s σ H xs us Q I rs q => h pins s σ H xs us Q I rs (i xs H Q q)
theorem RelL.one_inv {K : PySem.W.Frag} {m : Nat → Addr} {N : Nat} {G : Hp} {x : PV} {vs : List V} (r : RelL K m N G [x] vs) : ∃ v, vs = [v] ∧ Rel K m N G x v := by
  cases r with
  | cons a b => cases b; exact ⟨_, rfl, a⟩
theorem RelL.two_inv {K : PySem.W.Frag} {m : Nat → Addr} {N : Nat} {G : Hp} {x y : PV} {vs : List V} (r : RelL K m N G [x, y] vs) : ∃ v w, vs = [v, w] ∧ Rel K m N G x v ∧ Rel K m N G y w := by
  cases r with
  | cons a b => obtain ⟨w, rfl, b'⟩ := b.one_inv; exact ⟨_, _, rfl, a, b'⟩
/-- the items of a list or tuple, where they lie -/
theorem seq_at {K : PySem.W.Frag} {m : Nat → Addr} {G H : Hp} {h : PH} {v : PV} {u : V} {xs : List PV} (R : HR K CT m G H h) (r : Rel K m h.length G v u) (e : seqOf v h = some xs) : ∃ b vs, u = .ref b ∧ (SqL K H b vs ∨ SqT K H b vs ∧ SqT K G b vs ∧ v = .tup xs) ∧ RelL K m h.length G xs vs := by
  unfold seqOf at e
  split at e
  · injection e with e
    subst e
    obtain ⟨a, vs, rfl, ht, rl⟩ := r.tup_inv
    exact ⟨a, vs, rfl, .inr ⟨R.sub.sqT ht, ht, rfl⟩, rl⟩
  · rename_i n
    obtain ⟨rfl, hn⟩ := r.ref_inv
    split at e
    · rename_i ys ek
      injection e with e
      subst e
      obtain ⟨vs, hH, rl⟩ := R.lst ek
      exact ⟨_, vs, rfl, .inl (.of hH), rl⟩
    · rename_i ys ek
      injection e with e
      subst e
      obtain ⟨vs, hH, rl⟩ := R.frz ek
      exact ⟨_, vs, rfl, .inl hH, rl⟩
    · cases e
  · cases e
theorem seq_or {K : PySem.W.Frag} {G H : Hp} {b : Addr} {vs : List V} {p : Prop} (h : SqL K H b vs ∨ SqT K H b vs ∧ SqT K G b vs ∧ p) : SqL K H b vs ∨ SqT K H b vs := h.imp id (·.1)
theorem call_len_b : CallR X (.builtin "len") (rBl X.K CT W "len") := by
  refine CallR.imp (CallR.or call_len_str (CallR.or call_len_seq call_lenD)) fun xs H Q ⟨m, G, h, pvs, σ, R, rl, q⟩ => ?_
  simp only [bltV] at q
  split at q
  · rename_i v
    obtain ⟨u, rfl, ru⟩ := rl.one_inv
    obtain ⟨y, ey, q2⟩ := oneR_parts q R
    cases en : lenOf v h with
    | none => rw [en] at ey; cases ey
    | some n =>
      rw [en] at ey
      injection ey with ey
      subst ey
      have q3 := q2 _ (.int (n : Int))
      unfold lenOf at en
      split at en
      · rename_i s
        obtain rfl := ru.str_inv
        split at en
        · rename_i hs
          injection en with en
          subst en
          exact .inl ⟨S2 s, rfl, by rw [S2_len, ← szl_eq]; exact hs, by rw [S2_len]; exact q3⟩
        · cases en
      · obtain ⟨b, vs, rfl, hb, rs⟩ := seq_at (xs := _) R ru rfl
        injection en with en
        subst en
        rw [rs.length] at q3
        exact .inr (.inl ⟨b, vs, rfl, seq_or hb, q3⟩)
      · rename_i n'
        split at en
        · rename_i ys ek
          injection en with en
          subst en
          obtain ⟨b, vs, rfl, hb, rs⟩ := seq_at (xs := ys) R ru (by unfold seqOf; simp only [ek])
          rw [rs.length] at q3
          exact .inr (.inl ⟨b, vs, rfl, seq_or hb, q3⟩)
        · rename_i ys ek
          injection en with en
          subst en
          obtain ⟨b, vs, rfl, hb, rs⟩ := seq_at (xs := ys) R ru (by unfold seqOf; simp only [ek])
          rw [rs.length] at q3
          exact .inr (.inl ⟨b, vs, rfl, seq_or hb, q3⟩)
        · rename_i kvs ek
          injection en with en
          subst en
          obtain ⟨rfl, hn⟩ := ru.ref_inv
          obtain ⟨ks, hH, rd⟩ := R.dic ek
          refine .inr (.inr ⟨_, ks, rfl, hH, ?_⟩)
          have hl : kvs.length = ks.length := by
            clear q3 q2 q hH ek
            induction kvs generalizing ks with
            | nil => cases ks with
              | nil => rfl
              | cons _ _ => exact rd.elim
            | cons p r ih => cases ks with
              | nil => exact rd.elim
              | cons p' r' => rw [List.length_cons, List.length_cons, ih (ks := r') rd.2.2]
          rw [← hl]
          exact q3
        · cases en
      · cases en
  · exact q.elim
theorem call_int_b : CallR X (.type "int") (rBl X.K CT W "int") := by
  refine CallR.imp call_int1 fun xs H Q ⟨m, G, h, pvs, σ, R, rl, q⟩ => ?_
  simp only [bltV] at q
  split at q
  · obtain ⟨u, rfl, ru⟩ := rl.one_inv
    obtain rfl := ru.int_inv
    exact .inl ⟨_, rfl, Post.now q R (.int _)⟩
  · obtain ⟨u, rfl, ru⟩ := rl.one_inv
    obtain rfl := ru.bl_inv
    exact .inr ⟨_, rfl, Post.now q R (.int _)⟩
  · exact q.elim
theorem call_max_b (hc : X.calm = true) : CallR X (.builtin "max") (rBl X.K CT W "max") := by
  refine CallR.imp (call_max2 hc) fun xs H Q ⟨m, G, h, pvs, σ, R, rl, q⟩ => ?_
  simp only [bltV] at q
  split at q
  · obtain ⟨u, w, rfl, ru, rw'⟩ := rl.two_inv
    obtain rfl := ru.int_inv
    obtain rfl := rw'.int_inv
    exact ⟨_, _, rfl, Post.now q R (.int _)⟩
  · exact q.elim
theorem call_min_b (hc : X.calm = true) : CallR X (.builtin "min") (rBl X.K CT W "min") := by
  refine CallR.imp (call_min2 hc) fun xs H Q ⟨m, G, h, pvs, σ, R, rl, q⟩ => ?_
  simp only [bltV] at q
  split at q
  · obtain ⟨u, w, rfl, ru, rw'⟩ := rl.two_inv
    obtain rfl := ru.int_inv
    obtain rfl := rw'.int_inv
    exact ⟨_, _, rfl, Post.now q R (.int _)⟩
  · exact q.elim
theorem call_tuple_b : CallR X (.type "tuple") (rBl X.K CT W "tuple") := by
  refine CallR.imp call_tuple_of fun xs H Q ⟨m, G, h, pvs, σ, R, rl, q⟩ => ?_
  simp only [bltV] at q
  split at q
  · rename_i v
    obtain ⟨u, rfl, ru⟩ := rl.one_inv
    cases es : seqOf v h with
    | none => rw [es] at q; exact q.elim
    | some ys =>
      rw [es] at q
      have q' : Post X.K CT (Rel X.K) W σ m G h.length Q (.ok (.tup ys) h) := q
      obtain ⟨b, vs, rfl, hb, rs⟩ := seq_at R ru es
      refine ⟨b, vs, rfl, ?_⟩
      rcases hb with hb | ⟨hb, hg, rfl⟩
      · exact .inl ⟨hb, fun l hl => Post.newT q' R rs hl⟩
      · exact .inr ⟨hb, Post.now q' R ru⟩
  · exact q.elim
/-- the items of a list that are ints -/
theorem ints_rel {K : PySem.W.Frag} {m : Nat → Addr} {N : Nat} {G : Hp} : ∀ {xs : List PV} {vs : List V} {ns : List Int}, RelL K m N G xs vs → intsOf xs = some ns → vs = ns.map V.int ∧ xs = ns.map PV.int
  | [], _, ns, r, e => by
    cases r
    injection e with e
    subst e
    exact ⟨rfl, rfl⟩
  | x :: xs, _, ns, r, e => by
    cases r with
    | cons a r =>
      cases x with
      | int i =>
        unfold intsOf at e
        cases e1 : intsOf xs with
        | none => rw [e1] at e; cases e
        | some ms =>
          rw [e1] at e
          injection e with e
          subst e
          obtain ⟨h1, h2⟩ := ints_rel r e1
          rw [a.int_inv, h1, h2]
          exact ⟨rfl, rfl⟩
      | _ => cases e
theorem rel_ints {K : PySem.W.Frag} {m : Nat → Addr} {N : Nat} {G : Hp} : ∀ (ns : List Int), RelL K m N G (ns.map PV.int) (ns.map V.int)
  | [] => .nil
  | n :: ns => .cons (.int n) (rel_ints ns)
theorem sum_eq : ∀ ns : List Int, sumL ns = ns.sum
  | [] => rfl
  | n :: ns => by rw [sumL, List.sum_cons, sum_eq ns]
theorem maxL_le : ∀ (ns : List Int) (m : Int), m ≤ maxL m ns ∧ (∀ y, y ∈ ns → y ≤ maxL m ns) ∧ (maxL m ns = m ∨ maxL m ns ∈ ns)
  | [], m => ⟨Int.le_refl _, fun _ h => (by cases h), .inl rfl⟩
  | n :: ns, m => by
    unfold maxL
    obtain ⟨h1, h2, h3⟩ := maxL_le ns (if n > m then n else m)
    have hm : m ≤ (if n > m then n else m) := by split <;> omega
    have hn : n ≤ (if n > m then n else m) := by split <;> omega
    refine ⟨Int.le_trans hm h1, fun y hy => ?_, ?_⟩
    · rcases List.mem_cons.mp hy with rfl | hy
      · exact Int.le_trans hn h1
      · exact h2 y hy
    · rcases h3 with h3 | h3
      · rw [h3]
        split
        · exact .inr List.mem_cons_self
        · exact .inl rfl
      · exact .inr (List.mem_cons_of_mem _ h3)
theorem lst_at {K : PySem.W.Frag} {m : Nat → Addr} {G H : Hp} {h : PH} {v : PV} {u : V} {xs : List PV} (R : HR K CT m G H h) (r : Rel K m h.length G v u) (e : lstOf v h = some xs) : ∃ b vs, u = .ref b ∧ SqL K H b vs ∧ RelL K m h.length G xs vs := by
  unfold lstOf at e
  split at e
  · rename_i n
    obtain ⟨rfl, hn⟩ := r.ref_inv
    split at e
    · rename_i ys ek
      injection e with e
      subst e
      obtain ⟨vs, hH, rl⟩ := R.lst ek
      exact ⟨_, vs, rfl, .of hH, rl⟩
    · rename_i ys ek
      injection e with e
      subst e
      obtain ⟨vs, hH, rl⟩ := R.frz ek
      exact ⟨_, vs, rfl, hH, rl⟩
    · cases e
  · cases e
theorem ints_at {K : PySem.W.Frag} {m : Nat → Addr} {G H : Hp} {h : PH} {v : PV} {u : V} {ns : List Int} (R : HR K CT m G H h) (r : Rel K m h.length G v u) (e : (lstOf v h).bind intsOf = some ns) : ∃ b, u = .ref b ∧ SqL K H b (ns.map V.int) := by
  cases es : lstOf v h with
  | none => rw [es] at e; cases e
  | some ys =>
    rw [es] at e
    obtain ⟨b, vs, rfl, hb, rs⟩ := lst_at R r es
    obtain ⟨rfl, _⟩ := ints_rel rs e
    exact ⟨b, rfl, hb⟩
theorem bls_rel {K : PySem.W.Frag} {m : Nat → Addr} {N : Nat} {G : Hp} : ∀ {xs : List PV} {vs : List V} {ns : List Bool}, RelL K m N G xs vs → blsOf xs = some ns → vs = ns.map V.bl
  | [], _, ns, r, e => by
    cases r
    injection e with e
    subst e
    rfl
  | x :: xs, _, ns, r, e => by
    cases r with
    | cons a r =>
      cases x with
      | bl i =>
        unfold blsOf at e
        cases e1 : blsOf xs with
        | none => rw [e1] at e; cases e
        | some ms =>
          rw [e1] at e
          injection e with e
          subst e
          rw [a.bl_inv, bls_rel r e1]
          rfl
      | _ => cases e
theorem bls_at {K : PySem.W.Frag} {m : Nat → Addr} {G H : Hp} {h : PH} {v : PV} {u : V} {ns : List Bool} (R : HR K CT m G H h) (r : Rel K m h.length G v u) (e : (lstOf v h).bind blsOf = some ns) : ∃ b, u = .ref b ∧ SqL K H b (ns.map V.bl) := by
  cases es : lstOf v h with
  | none => rw [es] at e; cases e
  | some ys =>
    rw [es] at e
    obtain ⟨b, vs, rfl, hb, rs⟩ := lst_at R r es
    rw [bls_rel rs e] at hb
    exact ⟨b, rfl, hb⟩
theorem call_sum_b (hc : X.calm = true) : CallR X (.builtin "sum") (rBl X.K CT W "sum") := by
  refine CallR.imp (cr_sum hc) fun xs H Q ⟨m, G, h, pvs, σ, R, rl, q⟩ => ?_
  simp only [bltV] at q
  split at q
  · rename_i v
    obtain ⟨u, rfl, ru⟩ := rl.one_inv
    split at q
    · rename_i ns en
      obtain ⟨b, rfl, hb⟩ := ints_at R ru en
      rw [sum_eq] at q
      exact ⟨b, ns, rfl, hb, Post.now q R (.int _)⟩
    · exact q.elim
  · exact q.elim
theorem call_maxof_b (hc : X.calm = true) : CallR X (.builtin "max") (rBl X.K CT W "maxof") := by
  refine CallR.imp (cr_max hc) fun xs H Q ⟨m, G, h, pvs, σ, R, rl, q⟩ => ?_
  simp only [bltV] at q
  split at q
  · rename_i v
    obtain ⟨u, rfl, ru⟩ := rl.one_inv
    split at q
    · rename_i n ns en
      obtain ⟨b, rfl, hb⟩ := ints_at R ru en
      refine ⟨b, n :: ns, rfl, hb, by simp, fun y hy hle => ?_⟩
      obtain ⟨h1, h2, h3⟩ := maxL_le ns n
      have e : y = maxL n ns := by
        apply Int.le_antisymm
        · rcases List.mem_cons.mp hy with rfl | hy
          · exact h1
          · exact h2 y hy
        · rcases h3 with h3 | h3
          · rw [h3]; exact hle _ List.mem_cons_self
          · exact hle _ (List.mem_cons_of_mem _ h3)
      rw [e]
      exact Post.now q R (.int _)
    · exact q.elim
  · exact q.elim
theorem minL_le : ∀ (ns : List Int) (m : Int), minL m ns ≤ m ∧ (∀ y, y ∈ ns → minL m ns ≤ y) ∧ (minL m ns = m ∨ minL m ns ∈ ns)
  | [], m => ⟨Int.le_refl _, fun _ h => (by cases h), .inl rfl⟩
  | n :: ns, m => by
    unfold minL
    obtain ⟨h1, h2, h3⟩ := minL_le ns (if n < m then n else m)
    have hm : (if n < m then n else m) ≤ m := by split <;> omega
    have hn : (if n < m then n else m) ≤ n := by split <;> omega
    refine ⟨Int.le_trans h1 hm, fun y hy => ?_, ?_⟩
    · rcases List.mem_cons.mp hy with rfl | hy
      · exact Int.le_trans h1 hn
      · exact h2 y hy
    · rcases h3 with h3 | h3
      · rw [h3]
        split
        · exact .inr List.mem_cons_self
        · exact .inl rfl
      · exact .inr (List.mem_cons_of_mem _ h3)
theorem call_minof_b (hc : X.calm = true) : CallR X (.builtin "min") (rBl X.K CT W "minof") := by
  refine CallR.imp (cr_min hc) fun xs H Q ⟨m, G, h, pvs, σ, R, rl, q⟩ => ?_
  simp only [bltV] at q
  split at q
  · rename_i v
    obtain ⟨u, rfl, ru⟩ := rl.one_inv
    split at q
    · rename_i n ns en
      obtain ⟨b, rfl, hb⟩ := ints_at R ru en
      refine ⟨b, n :: ns, rfl, hb, by simp, fun y hy hle => ?_⟩
      obtain ⟨h1, h2, h3⟩ := minL_le ns n
      have e : y = minL n ns := by
        apply Int.le_antisymm
        · rcases h3 with h3 | h3
          · rw [h3]; exact hle _ List.mem_cons_self
          · exact hle _ (List.mem_cons_of_mem _ h3)
        · rcases List.mem_cons.mp hy with rfl | hy
          · exact h1
          · exact h2 y hy
      rw [e]
      exact Post.now q R (.int _)
    · exact q.elim
  · exact q.elim
theorem call_all_b (hc : X.calm = true) : CallR X (.builtin "all") (rBl X.K CT W "all") := by
  refine CallR.imp (cr_all hc) fun xs H Q ⟨m, G, h, pvs, σ, R, rl, q⟩ => ?_
  simp only [bltV] at q
  split at q
  · rename_i v
    obtain ⟨u, rfl, ru⟩ := rl.one_inv
    split at q
    · rename_i ns en
      obtain ⟨b, rfl, hb⟩ := bls_at R ru en
      exact ⟨b, ns, rfl, hb, Post.now q R (.bl _)⟩
    · exact q.elim
  · exact q.elim
theorem call_any_b (hc : X.calm = true) : CallR X (.builtin "any") (rBl X.K CT W "any") := by
  refine CallR.imp (cr_any hc) fun xs H Q ⟨m, G, h, pvs, σ, R, rl, q⟩ => ?_
  simp only [bltV] at q
  split at q
  · rename_i v
    obtain ⟨u, rfl, ru⟩ := rl.one_inv
    split at q
    · rename_i ns en
      obtain ⟨b, rfl, hb⟩ := bls_at R ru en
      exact ⟨b, ns, rfl, hb, Post.now q R (.bl _)⟩
    · exact q.elim
  · exact q.elim
/-- the one ascending order -/
theorem insI_perm (x : Int) : ∀ l : List Int, (insI x l).Perm (x :: l)
  | [] => .refl _
  | y :: r => by
    unfold insI
    split
    · exact .refl _
    · exact ((insI_perm x r).cons y).trans (.swap x y r)
theorem sortI_perm : ∀ l : List Int, (sortI l).Perm l
  | [] => .refl _
  | x :: r => (insI_perm x (sortI r)).trans ((sortI_perm r).cons x)
theorem insI_asc (x : Int) : ∀ l : List Int, l.Pairwise (· ≤ ·) → (insI x l).Pairwise (· ≤ ·)
  | [], _ => by simp [insI]
  | y :: r, h => by
    obtain ⟨h1, h2⟩ := List.pairwise_cons.mp h
    unfold insI
    split
    · rename_i hx
      refine List.pairwise_cons.mpr ⟨fun z hz => ?_, h⟩
      rcases List.mem_cons.mp hz with rfl | hz
      · exact hx
      · exact Int.le_trans hx (h1 z hz)
    · rename_i hx
      refine List.pairwise_cons.mpr ⟨fun z hz => ?_, insI_asc x r h2⟩
      rcases List.mem_cons.mp ((insI_perm x r).mem_iff.mp hz) with rfl | hz
      · omega
      · exact h1 z hz
theorem sortI_asc : ∀ l : List Int, (sortI l).Pairwise (· ≤ ·)
  | [] => by simp [sortI]
  | x :: r => insI_asc x (sortI r) (sortI_asc r)
theorem asc_one : ∀ {a b : List Int}, a.Perm b → a.Pairwise (· ≤ ·) → b.Pairwise (· ≤ ·) → a = b
  | [], b, p, _, _ => p.nil_eq
  | x :: r, b, p, ha, hb => by
    cases b with
    | nil => exact absurd p.length_eq (by simp)
    | cons y t =>
      obtain ⟨a1, a2⟩ := List.pairwise_cons.mp ha
      obtain ⟨b1, b2⟩ := List.pairwise_cons.mp hb
      have e : x = y := by
        have h1 : x ∈ y :: t := p.mem_iff.mp List.mem_cons_self
        have h2 : y ∈ x :: r := p.mem_iff.mpr List.mem_cons_self
        rcases List.mem_cons.mp h1 with e | h1
        · exact e
        · rcases List.mem_cons.mp h2 with e | h2
          · exact e.symm
          · exact Int.le_antisymm (a1 y h2) (b1 x h1)
      subst e
      rw [asc_one (p.cons_inv) a2 b2]
theorem call_sorted_b : CallR X (.builtin "sorted") (rBl X.K CT W "sorted") := by
  refine CallR.imp cr_sortedI fun xs H Q ⟨m, G, h, pvs, σ, R, rl, q⟩ => ?_
  simp only [bltV] at q
  split at q
  · rename_i v
    obtain ⟨u, rfl, ru⟩ := rl.one_inv
    split at q
    · rename_i ns en
      obtain ⟨b, rfl, hb⟩ := ints_at R ru en
      refine ⟨b, ns, rfl, hb, fun ns' p hp ha hn => ?_⟩
      rw [asc_one (hp.trans (sortI_perm ns).symm) ha (sortI_asc ns)]
      exact Post.newL q R (rel_ints _) hn
    · exact q.elim
  · exact q.elim
theorem signs_rel {K : PySem.W.Frag} {m : Nat → Addr} {N : Nat} {G : Hp} : ∀ (s : List Char), RelL K m N G (s.map fun c => PV.str [c]) (s.map fun c => V.str (S2 [c]))
  | [] => .nil
  | c :: r => .cons (.str [c]) (signs_rel r)
/-- list(x), x a text -/
theorem call_list_t (hc : X.calm = true) : CallR X (.type "list") (fun xs H Q => ∃ s : List Char, xs = [V.str (S2 s)] ∧ s.length ≤ sizeLine ∧ ∀ l, H l = none → Q (.ref l) (upd H l (.lst (s.map fun c => V.str (S2 [c]))))) := by
  intro pins z σ H xs us Q I r h
  obtain ⟨s, rfl, few, q⟩ := h
  obtain ⟨v, rfl, rv⟩ := vals1 r
  obtain ⟨t, rfl⟩ := rv
  have sz : (S2 s).cps.size = s.length := by simp
  refine PySem.call_list_str (hn := by rw [sz]; exact few) (I.ok.hd hc) (S2 s) t fun g tk acc c kp hS hi => ?_
  have fr : H z.heap.objs.size = none := I.hok.fresh (Nat.le_refl _)
  obtain ⟨h1, h2⟩ := hi
  have hv : Vals (s.map fun c => V.str (S2 [c])) acc.toList := by
    have key : ∀ (s : List Char) (l : List Value), l.length = s.length → (∀ (j : Nat) (v : Value), l[j]? = some v → ∃ (c : Nat) (u : Tok), (s[j]?).map Char.toNat = some c ∧ v = Value.str ⟨#[c]⟩ u) → Vals (s.map fun c => V.str (S2 [c])) l := by
      intro s
      induction s with
      | nil =>
        intro l hl _
        cases l with
        | nil => exact .nil
        | cons a b => cases hl
      | cons c r ih =>
        intro l hl hv
        cases l with
        | nil => cases hl
        | cons a b =>
          obtain ⟨c1, u, e, ea⟩ := hv 0 a rfl
          obtain rfl : c.toNat = c1 := by simpa using e
          refine .cons ⟨u, ea⟩ (ih b (by simpa using hl) fun j v e => ?_)
          simpa using hv (j + 1) v (by simpa using e)
    refine key s acc.toList (by rw [Array.length_toList, h1, sz]) fun j v e => ?_
    obtain ⟨c, u, e1, e2⟩ := h2 j v (by rw [← Array.getElem?_toList]; exact e)
    exact ⟨c, u, by simpa using e1, e2⟩
  exact ⟨.ref z.heap.objs.size, upd H z.heap.objs.size (.lst (s.map fun c => V.str (S2 [c]))), I.laid (t' := tk) kp (Nat.le_refl _) ⟨by rw [List.length_map]; exact few, acc.toList, c, hv, hS⟩, rfl, q _ fr⟩
theorem call_list_b (hc : X.calm = true) : CallR X (.type "list") (rBl X.K CT W "list") := by
  refine CallR.imp (CallR.or call_list_of (call_list_t hc)) fun xs H Q ⟨m, G, h, pvs, σ, R, rl, q⟩ => ?_
  simp only [bltV] at q
  split at q
  · rename_i v
    obtain ⟨u, rfl, ru⟩ := rl.one_inv
    split at q
    · rename_i ys es
      unfold lisOf at es
      split at es
      · rename_i s
        split at es
        · rename_i few
          injection es with es
          subst es
          obtain rfl := ru.str_inv
          exact .inr ⟨s, rfl, by rw [← szl_eq]; exact few, fun l hl => Post.newL q R (signs_rel s) hl⟩
        · cases es
      · obtain ⟨b, vs, rfl, hb, rs⟩ := seq_at R ru es
        exact .inl ⟨b, vs, rfl, seq_or hb, fun l hl => Post.newL q R rs hl⟩
    · exact q.elim
  · exact q.elim
end
end Mi

set_option Elab.async false
set_option linter.all false
set_option maxRecDepth 100000
/-! Mi13: isinstance. -/
namespace Mi
open PySem PySem.Spec PyProof.Rows L2
/-- the names of the types below the class u -/
structure TyT (K : PySem.W.Frag) (CT : Cts) (u : Value) (ts : List String) : Prop where
  bt : ∀ n, n ∈ ["NoneType", "bool", "int", "str", "tuple", "list", "dict"] → PySem.W.kitOne K (.type n) u = some (decide (n ∈ ts))
  ow : ∀ c C, CT.ins c C → PySem.W.kitOne K (.ref C) u = some (decide (c ∈ ts))
  ex : ∀ c C, CT.exc c C → PySem.W.kitOne K (.ref C) u = some (decide (c ∈ ts))
/-- a class whose instances may be asked -/
structure InsT (K : PySem.W.Frag) (C : Addr) : Prop where
  cl : Cls K C
  ha : PySem.W.findIn K (.ref C) "__class__" = some (some (.builtin "object.__class__"))
  hn : PySem.W.specialIn K (.builtin "object.__class__") "__get__" = some (some (.builtin "getset_descriptor.__get__"))
  htk : PySem.W.takesIn K (.builtin "object.__class__") = some true
  hm : PySem.W.mroIn K C (.type "object") = some true
section
variable {X : Cx} {CT : Cts} {cl : Cl} {W : WX} {k : Nat} {a : Addr} {e e1 e2 e3 : Expr} {es : List Expr} {c c1 c2 c3 : E} {cs : List E} {pos apos p : Pos}
theorem ty_tup {K : PySem.W.Frag} {H : Hp} {b : Addr} {vs : List V} (h : SqT K H b vs) : TyX K H (.ref b) (.type "tuple") := by
  rcases h with (h | ⟨o, h⟩) | ⟨o, its, n, h, hc, _⟩
  · exact .base (.tup h)
  · exact .fTuple h
  · exact .kTuple h hc
theorem ty_lst {K : PySem.W.Frag} {H : Hp} {b : Addr} {vs : List V} (h : SqL K H b vs) : TyX K H (.ref b) (.type "list") := by
  rcases h with (h | ⟨o, h⟩) | ⟨o, its, n, h, hc, _⟩
  · exact .base (.lst h)
  · exact .base (.frz h)
  · exact .kList h hc
theorem ty_at {K : PySem.W.Frag} {m : Nat → Addr} {G H : Hp} {h : PH} {x : PV} {v : V} {t : String} (hI : ∀ c C, CT.ins c C → InsT K C) (hE : ∀ c C, CT.exc c C → ExcC K C) (R : HR K CT m G H h) (r : Rel K m h.length G x v) (e : tyN x h = some t) : ∃ tv, TyE K H v tv ∧ ∀ u ts, TyT K CT u ts → PySem.W.kitOne K tv u = some (decide (t ∈ ts)) := by
  unfold tyN at e
  split at e
  · injection e with e
    subst e
    obtain rfl := r.non_inv
    exact ⟨_, .ty <| .base .non, fun u ts T => T.bt _ (by simp)⟩
  · injection e with e
    subst e
    obtain rfl := r.bl_inv
    exact ⟨_, .ty <| .base (.bl _), fun u ts T => T.bt _ (by simp)⟩
  · injection e with e
    subst e
    obtain rfl := r.int_inv
    exact ⟨_, .ty <| .base (.int _), fun u ts T => T.bt _ (by simp)⟩
  · injection e with e
    subst e
    obtain rfl := r.str_inv
    exact ⟨_, .ty <| .base (.str _), fun u ts T => T.bt _ (by simp)⟩
  · injection e with e
    subst e
    obtain ⟨b, vs, rfl, ht, _⟩ := r.tup_inv
    exact ⟨_, .ty <| ty_tup (R.sub.sqT ht), fun u ts T => T.bt _ (by simp)⟩
  · rename_i n
    obtain ⟨rfl, hn⟩ := r.ref_inv
    split at e
    · rename_i ys ek
      injection e with e
      subst e
      obtain ⟨vs, hH, _⟩ := R.lst ek
      exact ⟨_, .ty <| ty_lst (.of hH), fun u ts T => T.bt _ (by simp)⟩
    · rename_i ys ek
      injection e with e
      subst e
      obtain ⟨vs, hH, _⟩ := R.frz ek
      exact ⟨_, .ty <| ty_lst hH, fun u ts T => T.bt _ (by simp)⟩
    · rename_i ys ek
      injection e with e
      subst e
      obtain ⟨vs, hH, _⟩ := R.dic ek
      exact ⟨_, .ty <| .base (.dK hH), fun u ts T => T.bt _ (by simp)⟩
    · rename_i c fs ek
      injection e with e
      subst e
      obtain ⟨C, dx, gs, ct, hH, _⟩ := R.ins ek
      have I := hI c C ct
      exact ⟨_, .ty <| .base (.ins hH I.cl I.ha I.hn I.htk I.hm), fun u ts T => T.ow _ _ ct⟩
    · rename_i c fs ek
      injection e with e
      subst e
      obtain ⟨C, d, ct, hG, hf⟩ := R.obj n _ ek
      refine ⟨_, .ex (R.sub _ _ hG) ?_ (hE c C ct), fun u ts T => T.ex _ _ ct⟩
      rcases hf with ⟨_, rfl⟩ | ⟨dd, gs, rfl, h2, _⟩
      · trivial
      · exact ⟨gs, R.sub _ _ h2⟩
    · cases e
    · cases e
/-- isinstance(e, T) -/
theorem I_isi {ts : List String} {u : V} {w : Value} (hcl : GroC cl) (hI : ∀ c C, CT.ins c C → InsT X.K C) (hE : ∀ c C, CT.exc c C → ExcC X.K C) (hg : Gl X "isinstance") (hm : X.mg "isinstance" = none) (hv : bootBuiltins "isinstance" = some (.builtin "isinstance")) (h1 : PE X e (tE X.K CT cl W c)) (h2 : PE X e2 (tC u)) (hu : ClsV u w) (T : TyT X.K CT w ts)
    (hs1 : starEach [e, e2] X.env = (false, eval e X.env) :: starEach [e2] X.env) (hs2 : starEach [e2] X.env = (false, eval e2 X.env) :: starEach [] X.env) (hpl : (backTo pos (starEach [e2] X.env)).any (·.1) = false) :
    PE X (.Call (.Name "isinstance" p) [e, e2] [] pos) (tE X.K CT cl W (.isi c ts)) :=
  PEimp (pe_callB call_isC hg hm hv (pa_cons h1 (pa_cons h2 pa_nil hs2) hs1) (by decide) (by decide) hs1 hpl) fun σ H Q ⟨m, G, h, ρ, R, s, q⟩ => by
    simp only [ev] at q
    refine tE_first hcl R s q fun x v h1 m1 G1 H1 _ _ _ R1 s1 r1 q1 => ?_
    obtain ⟨b, e, q2⟩ := bR_parts q1 R1
    cases et : tyN x h1 with
    | none => rw [et] at e; cases e
    | some t =>
      rw [et] at e
      injection e with e
      have e : decide (t ∈ ts) = b := e
      obtain ⟨tv, hty, hk⟩ := ty_at hI hE R1 r1 et
      exact ⟨v, u, tv, w, b, rfl, hu, hty, by rw [hk w ts T, e], q2⟩
/-- several classes in one tuple -/
inductive TyTs (K : PySem.W.Frag) (CT : Cts) : List Value → List String → Prop
  | nil : TyTs K CT [] []
  | cons {u : Value} {us : List Value} {ts tr : List String} (a : TyT K CT u ts) (r : TyTs K CT us tr) : TyTs K CT (u :: us) (ts ++ tr)
theorem TyTs.any {K : PySem.W.Frag} {us : List Value} {ts : List String} (T : TyTs K CT us ts) {tv : Value} {t : String} (hk : ∀ u ts, TyT K CT u ts → PySem.W.kitOne K tv u = some (decide (t ∈ ts))) : PySem.W.kitAny K tv us = some (decide (t ∈ ts)) := by
  induction T with
  | nil => rfl
  | @cons u us ts tr a r ih =>
    refine kitAny_cons (hk u ts a) (fun hb => ?_) (fun hb => ?_)
    · rw [ih]
      have := of_decide_eq_false hb
      simp [this]
    · have := of_decide_eq_true hb
      simp [this]
theorem I_isiT {x2} {ts : List String} {us : List V} {ws : List Value} {p2 : Pos} (hcl : GroC cl) (hI : ∀ c C, CT.ins c C → InsT X.K C) (hE : ∀ c C, CT.exc c C → ExcC X.K C) (hg : Gl X "isinstance") (hm : X.mg "isinstance" = none) (hv : bootBuiltins "isinstance" = some (.builtin "isinstance")) (h1 : PE X e (tE X.K CT cl W c))
    (h2 : PA X es (fun _ H Q => Q us H)) (hz : us.length ≤ sizeLine) (hu : Paired ClsV us ws) (T : TyTs X.K CT ws ts)
    (hs1 : starEach [e, .Tuple es x2 p2] X.env = (false, eval e X.env) :: starEach [.Tuple es x2 p2] X.env) (hs2 : starEach [.Tuple es x2 p2] X.env = (false, eval (.Tuple es x2 p2) X.env) :: starEach [] X.env) (hpl : (backTo pos (starEach [.Tuple es x2 p2] X.env)).any (·.1) = false) :
    PE X (.Call (.Name "isinstance" p) [e, .Tuple es x2 p2] [] pos) (tE X.K CT cl W (.isi c ts)) :=
  PEimp (pe_callB call_isCs hg hm hv (pa_cons h1 (pa_cons (pe_tup h2) pa_nil hs2) hs1) (by decide) (by decide) hs1 hpl) fun σ H Q ⟨m, G, h, ρ, R, s, q⟩ => by
    simp only [ev] at q
    refine tE_first hcl R s q fun x v h1 m1 G1 H1 _ _ _ R1 s1 r1 q1 => ?_
    obtain ⟨b, e, q2⟩ := bR_parts q1 R1
    refine ⟨hz, fun pp hp => ?_⟩
    cases et : tyN x h1 with
    | none => rw [et] at e; cases e
    | some t =>
      rw [et] at e
      injection e with e
      have e : decide (t ∈ ts) = b := e
      obtain ⟨R', sg⟩ := R1.newT (u := .tup us) hp
      obtain ⟨tv, hty, hk⟩ := ty_at hI hE R' (r1.mono Ex.refl (Nat.le_refl _) sg) et
      refine ⟨v, pp, us, tv, ws, b, rfl, upd_same, hu, hty, by rw [T.any hk, e], ?_⟩
      rw [et] at q1
      have q3 : Post X.K CT (Rel X.K) W σ m1 G1 h1.length Q (.ok (.bl b) h1) := by rw [← e]; exact q1
      exact q3 m1 _ _ _ Ex.refl sg R' (.bl b)
end
end Mi

set_option Elab.async false
set_option linter.all false
set_option maxRecDepth 100000
/-! Mi14: statements. -/
namespace Mi
open PySem PySem.Spec PyProof.Rows L2
/-- where a statement ends -/
def EndF (K : PySem.W.Frag) (CT : Cts) (W : WX) (D : Ends) (m : Nat → Addr) (G H : Hp) (N : Nat) : Fl → Prop
  | .nx ρ => ∀ σ, SR K m N G ρ σ → D.nx σ H
  | .rt v => ∀ u, Rel K m N G v u → D.rt u H
  | .bk ρ => ∀ σ, SR K m N G ρ σ → D.bk σ H
  | .ct ρ => ∀ σ, SR K m N G ρ σ → D.ct σ H
  | .xc x ρ => ∀ σ cls d, SR K m N G ρ σ → XR K CT m N G x cls d → W cls d σ H
def PostF (K : PySem.W.Frag) (CT : Cts) (W : WX) (D : Ends) (m : Nat → Addr) (G : Hp) (N : Nat) : R Fl → Prop
  | .ok f h' => ∀ m' G' H', Ex m m' N → Sub G G' → HR K CT m' G' H' h' → EndF K CT W D m' G' H' h'.length f
  | _ => False
section
variable {K : PySem.W.Frag} {CT : Cts} {cl : Cl} {W W' : WX} {D D' : Ends} {m m1 : Nat → Addr} {N N' : Nat} {G G1 H : Hp} {h : PH} {ρ : Mi.Env} {σ : L2.St}
theorem PostF.later {r : R Fl} (p : PostF K CT W D m G N r) (e : Ex m m1 N) (l : N ≤ N') (t : Sub G G1) : PostF K CT W D m1 G1 N' r := by
  cases r with
  | ok a h' => exact fun m' G' H' e1 e2 e3 => p m' G' H' (e.trans e1 l) (t.trans e2) e3
  | exc x h' => exact p
  | bad => exact p
theorem PostF.lift {α β : Type} {rel : (Nat → Addr) → Nat → Hp → α → β → Prop} {r : R α} {f : α → PH → R Fl} (hg : Gro h r) (s : SR K m h.length G ρ σ) (p : PostF K CT W D m G h.length (r.lift ρ f)) :
    Post K CT rel W σ m G h.length (fun b H1 => ∃ a h1 m1 G1, Ex m m1 h.length ∧ Sub G G1 ∧ HR K CT m1 G1 H1 h1 ∧ rel m1 h1.length G1 a b ∧ h.length ≤ h1.length ∧ PostF K CT W D m1 G1 h1.length (f a h1)) r := by
  cases r with
  | ok a h' => exact fun m' G' H' b e1 e2 e3 e4 => ⟨a, h', m', G', e1, e2, e3, e4, hg, PostF.later (r := f a h') p e1 hg e2⟩
  | exc x h' => exact fun m' G' H' cls d e1 e2 e3 e4 => p m' G' H' e1 e2 e3 σ cls d (s.mono e1 hg e2) e4
  | bad => exact p
theorem PostF.seq {r : R Fl} {f : Fl → PH → R Fl} (hg : Gro h r) (p : PostF K CT W D m G h.length (r.bind f))
    (k : ∀ x h1 m1 G1 H1, Ex m m1 h.length → Sub G G1 → HR K CT m1 G1 H1 h1 → h.length ≤ h1.length → PostF K CT W D m1 G1 h1.length (f x h1) → EndF K CT W' D' m1 G1 H1 h1.length x) : PostF K CT W' D' m G h.length r := by
  cases r with
  | ok a h' => exact fun m' G' H' e1 e2 e3 => k a h' m' G' H' e1 e2 e3 hg (PostF.later (r := f a h') p e1 hg e2)
  | exc x h' => exact p
  | bad => exact p
theorem PostF.now {x : Fl} (p : PostF K CT W D m G h.length (.ok x h)) (R : HR K CT m G H h) : EndF K CT W D m G H h.length x := p m G H Ex.refl Sub.refl R
end
section
variable (K : PySem.W.Frag) (CT : Cts) (cl : Cl) (W : WX)
def tS (c : S) : TS := fun D σ H => ∃ m G h ρ, HR K CT m G H h ∧ SR K m h.length G ρ σ ∧ PostF K CT W D m G h.length (ex cl c ρ h)
def tSs (c : List S) : TS := fun D σ H => ∃ m G h ρ, HR K CT m G H h ∧ SR K m h.length G ρ σ ∧ PostF K CT W D m G h.length (exs cl c ρ h)
end
section
variable {K : PySem.W.Frag} {CT : Cts} {cl : Cl} {W : WX} {D : Ends} {m : Nat → Addr} {N : Nat} {G H : Hp} {h : PH} {ρ : Mi.Env} {σ : L2.St}
theorem sE_first {c : E} {Q1 : VK} {f : PV → PH → R Fl} (hc : GroC cl) (R : HR K CT m G H h) (s : SR K m h.length G ρ σ) (p : PostF K CT W D m G h.length ((ev cl c ρ h).lift ρ f))
    (k : ∀ x v h1 m1 G1 H1, Ex m m1 h.length → Sub G G1 → h.length ≤ h1.length → HR K CT m1 G1 H1 h1 → SR K m1 h1.length G1 ρ σ → Rel K m1 h1.length G1 x v → PostF K CT W D m1 G1 h1.length (f x h1) → Q1 v H1) : tE K CT cl W c σ H Q1 :=
  ⟨m, G, h, ρ, R, s, (PostF.lift (ev_gro hc c ρ h) s p).mono fun v H1 ⟨x, h1, m1, G1, e1, e2, e3, e4, e5, e6⟩ => k x v h1 m1 G1 H1 e1 e2 e5 e3 (s.mono e1 e5 e2) e4 e6⟩
theorem sA_first {c : List E} {Q1 : List V → Hp → Prop} {f : List PV → PH → R Fl} (hc : GroC cl) (R : HR K CT m G H h) (s : SR K m h.length G ρ σ) (p : PostF K CT W D m G h.length ((evs cl c ρ h).lift ρ f))
    (k : ∀ x v h1 m1 G1 H1, Ex m m1 h.length → Sub G G1 → h.length ≤ h1.length → HR K CT m1 G1 H1 h1 → SR K m1 h1.length G1 ρ σ → RelL K m1 h1.length G1 x v → PostF K CT W D m1 G1 h1.length (f x h1) → Q1 v H1) : tA K CT cl W c σ H Q1 :=
  ⟨m, G, h, ρ, R, s, (PostF.lift (evs_gro hc c ρ h) s p).mono fun v H1 ⟨x, h1, m1, G1, e1, e2, e3, e4, e5, e6⟩ => k x v h1 m1 G1 H1 e1 e2 e5 e3 (s.mono e1 e5 e2) e4 e6⟩
theorem sT_first {c : E} {Q1 : Bool → Hp → Prop} {f : Bool → PH → R Fl} (hc : GroC cl) (R : HR K CT m G H h) (s : SR K m h.length G ρ σ) (p : PostF K CT W D m G h.length ((tst cl c ρ h).lift ρ f))
    (k : ∀ b h1 m1 G1 H1, Ex m m1 h.length → Sub G G1 → h.length ≤ h1.length → HR K CT m1 G1 H1 h1 → SR K m1 h1.length G1 ρ σ → PostF K CT W D m1 G1 h1.length (f b h1) → Q1 b H1) : tT K CT cl W c σ H Q1 :=
  ⟨m, G, h, ρ, R, s, (PostF.lift (rel := relB) (tst_gro hc c ρ h) s p).mono fun v H1 ⟨x, h1, m1, G1, e1, e2, e3, e4, e5, e6⟩ => by
    have e : x = v := e4
    subst e
    exact k x h1 m1 G1 H1 e1 e2 e5 e3 (s.mono e1 e5 e2) e6⟩
end
theorem PSsimp {X : Cx} {e : List Stmt} {t t' : TS} (p : PSs X e t) (i : ∀ D σ H, t' D σ H → t D σ H) : PSs X e t' := ⟨fun pins s σ H D I h => p.run pins s σ H D I (i D σ H h)⟩
section
variable {X : Cx} {CT : Cts} {cl : Cl} {W : WX} {e e1 e2 e3 : Expr} {es : List Expr} {c c1 c2 c3 : E} {cs : List E} {s1 : S} {ss ts : List S} {st : Stmt} {sts stt : List Stmt} {pos apos p : Pos}
theorem S_nil : PSs X [] (tSs X.K CT cl W []) := PSsimp pss_nil fun D σ H ⟨m, G, h, ρ, R, s, q⟩ => by
  simp only [exs] at q
  exact q.now R σ s
theorem S_cons (hcl : GroC cl) (h1 : PS X st (tS X.K CT cl W s1)) (h2 : PSs X sts (tSs X.K CT cl W ss)) : PSs X (st :: sts) (tSs X.K CT cl W (s1 :: ss)) :=
  PSsimp (pss_cons h1 h2) fun D σ H ⟨m, G, h, ρ, R, s, q⟩ => by
    simp only [exs] at q
    refine ⟨m, G, h, ρ, R, s, q.seq (ex_gro hcl s1 ρ h) fun x h1 m1 G1 H1 e1 e2 R1 le q1 => ?_⟩
    cases x with
    | nx ρ1 => exact fun σ' s' => ⟨m1, G1, h1, ρ1, R1, s', q1⟩
    | rt v => exact q1.now R1
    | bk ρ1 => exact q1.now R1
    | ct ρ1 => exact q1.now R1
    | xc x ρ1 => exact q1.now R1
theorem S_pass : PS X (.Pass pos) (tS X.K CT cl W .pass) := PSimp ps_pass fun D σ H ⟨m, G, h, ρ, R, s, q⟩ => by
  simp only [ex] at q
  exact q.now R σ s
theorem S_brk : PS X (.Break pos) (tS X.K CT cl W .brk) := PSimp ps_break fun D σ H ⟨m, G, h, ρ, R, s, q⟩ => by
  simp only [ex] at q
  exact q.now R σ s
theorem S_cnt : PS X (.Continue pos) (tS X.K CT cl W .cnt) := PSimp ps_continue fun D σ H ⟨m, G, h, ρ, R, s, q⟩ => by
  simp only [ex] at q
  exact q.now R σ s
theorem S_ex (hcl : GroC cl) (h1 : PE X e (tE X.K CT cl W c)) (hs : swapsWith e none pos.line X.env = pure false) : PS X (.Expr e pos) (tS X.K CT cl W (.ex c)) :=
  PSimp (ps_expr h1 hs) fun D σ H ⟨m, G, h, ρ, R, s, q⟩ => by
    simp only [ex] at q
    exact sE_first hcl R s q fun x v h1 m1 G1 H1 _ _ _ R1 s1 r1 q1 => q1.now R1 σ s1
theorem S_ret (hcl : GroC cl) (h1 : PE X e (tE X.K CT cl W c)) : PS X (.Return (some e) pos) (tS X.K CT cl W (.ret c)) :=
  PSimp (ps_ret h1) fun D σ H ⟨m, G, h, ρ, R, s, q⟩ => by
    simp only [ex] at q
    exact sE_first hcl R s q fun x v h1 m1 G1 H1 _ _ _ R1 s1 r1 q1 => q1.now R1 v r1
theorem S_retN : PS X (.Return none pos) (tS X.K CT cl W (.ret (.k .non))) :=
  PSimp ps_retN fun D σ H ⟨m, G, h, ρ, R, s, q⟩ => by
    simp only [ex, ev, lift_ok] at q
    exact q.now R _ .non
theorem S_if (hcl : GroC cl) (h1 : PT X e (tT X.K CT cl W c)) (h2 : PSs X sts (tSs X.K CT cl W ss)) (h3 : PSs X stt (tSs X.K CT cl W ts)) : PS X (.If e sts stt pos) (tS X.K CT cl W (.ite c ss ts)) :=
  PSimp (ps_if h1 h2 h3) fun D σ H ⟨m, G, h, ρ, R, s, q⟩ => by
    simp only [ex] at q
    refine sT_first hcl R s q fun b h1 m1 G1 H1 _ _ _ R1 s1 q1 => ?_
    cases b with
    | true => rw [if_pos rfl] at q1 ⊢; exact ⟨m1, G1, h1, ρ, R1, s1, q1⟩
    | false => rw [if_neg (by simp)] at q1 ⊢; exact ⟨m1, G1, h1, ρ, R1, s1, q1⟩
theorem S_set {i : Nat} {x : Str} {pos' : Pos} (hcl : GroC cl) (hN : X.N.Nodup) (hi : X.N[i]? = some x) (hx : Loc X.env.scope x) (h1 : PE X e (tE X.K CT cl W c)) (hs : swapsWith e (some (.Name x pos')) pos.line X.env = pure false) (hf : X.fn x = true ∨ X.env.scope.names.lookup x = some .local) :
    PS X (.Assign [.Name x pos'] e pos) (tS X.K CT cl W (.asg (.nm i) c)) :=
  PSimp (ps_set hN hi hx h1 hs hf) fun D σ H ⟨m, G, h, ρ, R, s, q⟩ => by
    simp only [ex, bindT] at q
    exact sE_first hcl R s q fun x v h1 m1 G1 H1 _ _ _ R1 s1 r1 q1 => q1.now R1 _ (s1.set r1 i)
theorem S_par {i j : Nat} {x y : Str} {px py pt : Pos} {kt k2 pt2} (hcl : GroC cl) (hc : X.calm = true) (hN : X.N.Nodup) (hi : X.N[i]? = some x) (hj : X.N[j]? = some y) (hij : i ≠ j) (hx : X.env.scope.names.lookup x = some .local) (hy : X.env.scope.names.lookup y = some .local) (ha : PA X [e1, e2] (tA X.K CT cl W [c1, c2]))
    (hw : swappedStores [.Tuple [.Name x px, .Name y py] kt pt] (.Tuple [e1, e2] k2 pt2) X.env = pure (some [x, y])) (hs : swapsWithSole [.Tuple [.Name x px, .Name y py] kt pt] (.Tuple [e1, e2] k2 pt2) pos.line X.env = pure false) :
    PS X (.Assign [.Tuple [.Name x px, .Name y py] kt pt] (.Tuple [e1, e2] k2 pt2) pos) (tS X.K CT cl W (.par [i, j] [c1, c2])) :=
  PSimp (ps_par hc hN hi hj hij hx hy ha hw hs) fun D σ H ⟨m, G, h, ρ, R, s, q⟩ => by
    simp only [ex] at q
    refine sA_first hcl R s q fun xs vs h1 m1 G1 H1 _ _ _ R1 s1 r1 q1 => ?_
    match xs, r1, q1 with
    | [], _, q1 => exact q1.elim
    | [_], _, q1 => exact q1.elim
    | [_, _], r1, q1 =>
      obtain ⟨v, w, rfl, rv, rw'⟩ := r1.two_inv
      exact ⟨v, w, rfl, q1.now R1 _ ((s1.set rv i).set rw' j)⟩
    | _ :: _ :: _ :: _, _, q1 => exact q1.elim
theorem S_aug {i : Nat} {x : Str} {pos' : Pos} {neg : Bool} {op : Operator} (ho : op = if neg then .Sub else .Add) (hcl : GroC cl) (hN : X.N.Nodup) (hi : X.N[i]? = some x) (hx : Loc X.env.scope x) (h1 : PE X e (tE X.K CT cl W c)) (hf : X.fn x = true ∨ X.env.scope.names.lookup x = some .local) :
    PS X (.AugAssign (.Name x pos') op e pos) (tS X.K CT cl W (.aug i neg c)) := by
  have go : ∀ (op : Operator) (ti : TIp), PIp X op ti → (∀ x y H Q, (∃ i j, x = V.int i ∧ y = V.int j ∧ Q (V.int (if neg then i - j else i + j)) H) → ti x y H Q) → PS X (.AugAssign (.Name x pos') op e pos) (tS X.K CT cl W (.aug i neg c)) := fun op ti hp hk =>
    PSimp (ps_aug hN hi hx h1 hp hf) fun D σ H ⟨m, G, h, ρ, R, s, q⟩ => by
      simp only [ex] at q
      split at q
      · rename_i px ep
        obtain ⟨v, ev, rv⟩ := s.2 i px ep
        refine ⟨v, ev, sE_first hcl R s q fun y u h1 m1 G1 H1 e1 e2 le R1 s1 r1 q1 => hk _ _ _ _ ?_⟩
        have rv1 := rv.mono e1 le e2
        unfold augV at q1
        split at q1
        · obtain rfl := rv1.int_inv
          obtain rfl := r1.int_inv
          exact ⟨_, _, rfl, rfl, q1.now R1 _ (s1.set (.int _) i)⟩
        · exact q1.elim
      · exact q.elim
  subst ho
  cases neg with
  | true => exact go _ _ ip_sub fun x y H Q ⟨i, j, a, b, q⟩ => ⟨i, j, a, b, q⟩
  | false => exact go _ _ ip_add fun x y H Q ⟨i, j, a, b, q⟩ => ⟨i, j, a, b, q⟩
theorem S_while (hcl : GroC cl) (hp : PassesOwn (model X.prog X.w) X.A X.env X.xe) (h1 : PT X e (tT X.K CT cl W c)) (h2 : PSs X sts (tSs X.K CT cl W ss)) : PS X (.While e sts [] pos) (tS X.K CT cl W (.while_ c ss)) :=
  PSimp (ps_while hp h1 h2) fun D σ H ⟨m, G, h, ρ, R, s, q⟩ => by
    simp only [ex] at q
    refine ⟨fun n σ H => ∃ m G h ρ, HR X.K CT m G H h ∧ SR X.K m h.length G ρ σ ∧ PostF X.K CT W D m G h.length (whL (fun ρ1 h1 => tst cl c ρ1 h1) (fun ρ1 h1 => exs cl ss ρ1 h1) n ρ h), ⟨_, m, G, h, ρ, R, s, q⟩, ?_⟩
    rintro n σ H ⟨m, G, h, ρ, R, s, q⟩
    cases n with
    | zero => exact q.elim
    | succ n =>
      unfold whL at q
      refine sT_first hcl R s q fun b h1 m1 G1 H1 _ _ _ R1 s1 q1 => ?_
      cases b with
      | true =>
        rw [if_pos rfl] at q1 ⊢
        refine ⟨fun σ' H' => ∃ m G h ρ, HR X.K CT m G H' h ∧ SR X.K m h.length G ρ σ' ∧ PostF X.K CT W D m G h.length (whL (fun ρ1 h1 => tst cl c ρ1 h1) (fun ρ1 h1 => exs cl ss ρ1 h1) n ρ h), fun σ' H' z => ⟨n, Nat.lt_succ_self n, z⟩, m1, G1, h1, ρ, R1, s1, q1.seq (exs_gro hcl ss ρ h1) fun x h2 m2 G2 H2 e1 e2 R2 le q2 => ?_⟩
        cases x with
        | nx ρ1 => exact fun σ' s' => ⟨m2, G2, h2, ρ1, R2, s', q2⟩
        | ct ρ1 => exact fun σ' s' => ⟨m2, G2, h2, ρ1, R2, s', q2⟩
        | bk ρ1 => exact q2.now R2
        | rt v => exact q2.now R2
        | xc x ρ1 => exact q2.now R2
      | false =>
        rw [if_neg (by simp)] at q1 ⊢
        exact q1.now R1 σ s1
end
end Mi

set_option Elab.async false
set_option linter.all false
set_option maxRecDepth 100000
/-! Mi15: targets, what is walked, for. -/
namespace Mi
open PySem PySem.Spec PyProof.Rows L2
/-! ### slots forgotten -/
theorem wipe_in {σ : L2.St} {j : Nat} : ∀ {vs : List Nat}, j ∈ vs → j < σ.length → (wipe σ vs)[j]? = some none
  | [], h, _ => by cases h
  | v :: vs, h, hl => by
    unfold wipe
    by_cases hv : v = j
    · subst hv
      rw [List.getElem?_set_self (by rw [wipe_length]; exact hl)]
    · rw [List.getElem?_set_ne hv]
      rcases List.mem_cons.mp h with h | h
      · exact absurd h.symm hv
      · exact wipe_in h hl
theorem wipe_set {σ : L2.St} {i : Nat} {vs : List Nat} (x : Option V) (h : i ∈ vs) : wipe (σ.set i x) vs = wipe σ vs := by
  apply List.ext_getElem?
  intro j
  by_cases hl : j < σ.length
  · by_cases hj : j ∈ vs
    · rw [wipe_in hj (by rw [List.length_set]; exact hl), wipe_in hj hl]
    · rw [wipe_out hj, wipe_out hj, List.getElem?_set_ne (show i ≠ j from fun z => hj (by rw [← z]; exact h))]
  · rw [List.getElem?_eq_none (by rw [wipe_length, List.length_set]; omega), List.getElem?_eq_none (by rw [wipe_length]; omega)]
/-! ### targets -/
section
variable (K : PySem.W.Frag) (CT : Cts) (vs : List Nat)
def tG (t : T) : TG := fun v σ H Q => ∃ m G h ρ ρ' px, HR K CT m G H h ∧ SR K m h.length G ρ σ ∧ Rel K m h.length G px v ∧ bindT h t px ρ = some ρ' ∧ ∀ σ', SR K m h.length G ρ' σ' → wipe σ' vs = wipe σ vs → Q σ' H
def tGs (t : List T) : TGs := fun us σ H Q => ∃ m G h ρ ρ' px, HR K CT m G H h ∧ SR K m h.length G ρ σ ∧ RelL K m h.length G px us ∧ bindTs h t px ρ = some ρ' ∧ ∀ σ', SR K m h.length G ρ' σ' → wipe σ' vs = wipe σ vs → Q σ' H
end
section
variable {X : Cx} {CT : Cts} {cl : Cl} {W : WX} {vv : List Nat} {e e1 e2 e3 : Expr} {es : List Expr} {c c1 c2 c3 : E} {cs : List E} {s1 : S} {ss ts : List S} {st : Stmt} {sts stt : List Stmt} {pos apos p : Pos}
theorem G_nm {i : Nat} {x : Str} (hN : X.N.Nodup) (hi : X.N[i]? = some x) (hx : Loc X.env.scope x) (hf : X.fn x = true ∨ X.env.scope.names.lookup x = some .local) (hv : i ∈ vv) : PG X (.Name x pos) (tG X.K CT vv (.nm i)) :=
  ⟨fun pins s σ H v u Q I r ⟨m, G, h, ρ, ρ', px, R, sr, rv, eb, q⟩ => (pg_name hN hi hx hf).run pins s σ H v u Q I r (by
    simp only [bindT] at eb
    injection eb with eb
    subst eb
    exact q _ (sr.set rv i) (wipe_set _ hv))⟩
theorem Gs_nil : PGs X [] (tGs X.K CT vv []) :=
  ⟨fun pins s σ H vs us Q I r ⟨m, G, h, ρ, ρ', px, R, sr, rv, eb, q⟩ => pgs_nil.run pins s σ H vs us Q I r (by
    cases px with
    | nil =>
      cases rv
      simp only [bindTs] at eb
      injection eb with eb
      subst eb
      exact ⟨rfl, q _ sr rfl⟩
    | cons _ _ => simp only [bindTs] at eb; cases eb)⟩
theorem Gs_cons {t : T} {tt : List T} (h1 : PG X e (tG X.K CT vv t)) (h2 : PGs X es (tGs X.K CT vv tt)) (hs : (assignEach (e :: es) X.env).map (·.2) = assign e X.env :: (assignEach es X.env).map (·.2)) : PGs X (e :: es) (tGs X.K CT vv (t :: tt)) :=
  ⟨fun pins s σ H vs us Q I r ⟨m, G, h, ρ, ρ', px, R, sr, rv, eb, q⟩ => (pgs_cons h1 h2 hs).run pins s σ H vs us Q I r (by
    cases rv with
    | nil => simp only [bindTs] at eb; cases eb
    | @cons x v xs vs a rr =>
      simp only [bindTs] at eb
      cases e1 : bindT h t x ρ with
      | none => rw [e1] at eb; cases eb
      | some ρ1 =>
        rw [e1] at eb
        exact ⟨v, vs, rfl, m, G, h, ρ, ρ1, x, R, sr, a, e1, fun σ1 s1 w1 => ⟨m, G, h, ρ1, ρ', xs, R, s1, rr, eb, fun σ2 s2 w2 => q σ2 s2 (w2.trans w1)⟩⟩)⟩
theorem bindTs_len {h : PH} : ∀ {ts : List T} {xs : List PV} {ρ ρ' : Mi.Env}, bindTs h ts xs ρ = some ρ' → xs.length = ts.length
  | [], [], _, _, _ => rfl
  | [], _ :: _, _, _, e => by simp only [bindTs] at e; cases e
  | _ :: _, [], _, _, e => by simp only [bindTs] at e; cases e
  | t :: ts, x :: xs, ρ, ρ', e => by
    simp only [bindTs] at e
    split at e
    · rw [List.length_cons, List.length_cons, bindTs_len e]
    · cases e
theorem G_tup {tt : List T} {k n : Nat} (hc : X.calm = true) (h1 : PGs X es (tGs X.K CT vv tt)) (hn : (assignEach es X.env).length = n) (ht : tt.length = n) (hst : (assignEach es X.env).findIdx? (·.1) = none) : PG X (.Tuple es k pos) (tG X.K CT vv (.tup tt)) :=
  ⟨fun pins s σ H v u Q I r ⟨m, G, h, ρ, ρ', px, R, sr, rv, eb, q⟩ => by
    unfold bindT at eb
    split at eb
    · rename_i xs
      obtain ⟨a, vs, rfl, hT, rl⟩ := rv.tup_inv
      refine (pg_tup hc h1 hn hst).run pins s σ H _ u Q I r ⟨a, vs, rfl, R.sub.sqT hT, ?_, m, G, h, ρ, ρ', xs, R, sr, rl, eb, q⟩
      rw [← rl.length, bindTs_len eb, ht]
    · rename_i n'
      obtain ⟨rfl, hlt⟩ := rv.ref_inv
      split at eb
      · rename_i xs ek
        obtain ⟨vs, hH, rl⟩ := R.lst ek
        refine (pg_lst hc h1 hn hst).run pins s σ H _ u Q I r ⟨_, vs, rfl, .of hH, ?_, m, G, h, ρ, ρ', xs, R, sr, rl, eb, q⟩
        rw [← rl.length, bindTs_len eb, ht]
      · cases eb
    · cases eb⟩
theorem S_asg {t : T} (hcl : GroC cl) (h1 : PE X e (tE X.K CT cl W c)) (h2 : PG X e1 (tG X.K CT vv t)) (hs : swapsWithSole [e1] e pos.line X.env = pure false) (hw : swappedStores [e1] e X.env = pure none) (ha : (assignEach [e1] X.env).map (·.2) = [assign e1 X.env]) :
    PS X (.Assign [e1] e pos) (tS X.K CT cl W (.asg t c)) :=
  PSimp (ps_asg h1 h2 hs hw ha) fun D σ H ⟨m, G, h, ρ, R, s, q⟩ => by
    simp only [ex] at q
    refine sE_first hcl R s q fun x v h1 m1 G1 H1 _ _ _ R1 s1 r1 q1 => ?_
    split at q1
    · rename_i ρ1 eb
      exact ⟨m1, G1, h1, ρ, ρ1, x, R1, s1, r1, eb, fun σ' s' _ => q1.now R1 σ' s'⟩
    · exact q1.elim
/-! ### o[i] = e, o.f = e, o.f += e -/
/-- the store written at a list, at an instance -/
theorem Post.put {D : Ends} {m : Nat → Addr} {G H : Hp} {h : PH} {n : Nat} {o o' : PO} {u : HO} {f : Fl} {K : PySem.W.Frag} (q : PostF K CT W D m G h.length (.ok f (h.set n o'))) (R : HR K CT m G H h) (e : h[n]? = some o) (k : nk o = true) (k' : nk o' = true)
    (w : ∀ H', H' (m n) = some u → OR K CT m h.length G H' (m n) o') : EndF K CT W D m G (upd H (m n) u) h.length f := by
  have z := q m G _ Ex.refl Sub.refl (R.put e k k' w)
  rw [List.length_set] at z
  exact z
theorem ixN_eq : ∀ (n : Nat) (i : Int), Mi.ixN n i = L2.ixN n i := fun n i => rfl
theorem relK_of {K : PySem.W.Frag} {m : Nat → Addr} {N : Nat} {G : Hp} {k : PV} {v : V} (r : Rel K m N G k v) (h : keyOk k = true) : ∃ g, v = kV g ∧ RelK k g := by
  cases k with
  | int i => exact ⟨.inl i, r.int_inv, rfl⟩
  | str s => exact ⟨.inr (S2 s), r.str_inv, rfl⟩
  | _ => cases h
theorem relK_eq {a b : PV} {g k : Key} (h1 : RelK a g) (h2 : RelK b k) : (a = b ↔ g = k) := by
  cases a with
  | int i =>
    cases g with
    | inl j =>
      cases b with
      | int i' => cases k with
        | inl j' =>
          have e1 : i = j := h1
          have e2 : i' = j' := h2
          subst e1 e2
          constructor
          · intro z; injection z with z; rw [z]
          · intro z; injection z with z; rw [z]
        | inr _ => exact h2.elim
      | str s' => cases k with
        | inl _ => exact h2.elim
        | inr _ => constructor <;> intro z <;> cases z
      | _ => cases k <;> exact h2.elim
    | inr _ => exact h1.elim
  | str s =>
    cases g with
    | inl _ => exact h1.elim
    | inr j =>
      cases b with
      | int i' => cases k with
        | inl j' => constructor <;> intro z <;> cases z
        | inr _ => exact h2.elim
      | str s' => cases k with
        | inl _ => exact h2.elim
        | inr j' =>
          have e1 : j = S2 s := h1
          have e2 : j' = S2 s' := h2
          subst e1 e2
          constructor
          · intro z; injection z with z; rw [z]
          · intro z; injection z with z; rw [S2_inj z]
      | _ => cases k <;> exact h2.elim
  | _ => cases g <;> exact h1.elim
theorem relD_len {K : PySem.W.Frag} {m : Nat → Addr} {N : Nat} {G : Hp} : ∀ {xs : List (PV × PV)} {ks : List (Key × V)}, RelD K m N G xs ks → xs.length = ks.length
  | [], [], _ => rfl
  | [], _ :: _, h => h.elim
  | _ :: _, [], h => h.elim
  | (a, b) :: r, (c, d) :: t, h => by rw [List.length_cons, List.length_cons, relD_len h.2.2]
theorem relD_app {K : PySem.W.Frag} {m : Nat → Addr} {N : Nat} {G : Hp} {k : PV} {g : Key} {x : PV} {v : V} (hk : RelK k g) (hv : Rel K m N G x v) : ∀ {xs : List (PV × PV)} {ks : List (Key × V)}, RelD K m N G xs ks → RelD K m N G (xs ++ [(k, x)]) (ks ++ [(g, v)])
  | [], [], _ => ⟨hk, hv, trivial⟩
  | [], _ :: _, h => h.elim
  | _ :: _, [], h => h.elim
  | (a, b) :: r, (c, d) :: t, h => ⟨h.1, h.2.1, relD_app hk hv h.2.2⟩
theorem relD_upd {K : PySem.W.Frag} {m : Nat → Addr} {N : Nat} {G : Hp} {k : PV} {g : Key} {x : PV} {v : V} (hk : RelK k g) (hv : Rel K m N G x v) : ∀ {xs : List (PV × PV)} {ks : List (Key × V)}, RelD K m N G xs ks →
    RelD K m N G (xs.map fun kv => if kv.1 = k then (kv.1, x) else kv) (ks.map fun kv => if kv.1 = g then (kv.1, v) else kv) ∧ ((xs.any fun kv => decide (kv.1 = k)) = (ks.any fun kv => decide (kv.1 = g)))
  | [], [], _ => ⟨trivial, rfl⟩
  | [], _ :: _, h => h.elim
  | _ :: _, [], h => h.elim
  | (a, b) :: r, (c, d) :: t, h => by
    obtain ⟨i1, i2⟩ := relD_upd hk hv h.2.2
    have e := relK_eq h.1 hk
    refine ⟨?_, ?_⟩
    · show RelD K m N G ((if a = k then (a, x) else (a, b)) :: _) ((if c = g then (c, v) else (c, d)) :: _)
      by_cases hz : a = k
      · rw [if_pos hz, if_pos (e.mp hz)]
        exact ⟨h.1, hv, i1⟩
      · rw [if_neg hz, if_neg fun z => hz (e.mpr z)]
        exact ⟨h.1, h.2.1, i1⟩
    · rw [List.any_cons, List.any_cons, i2]
      congr 1
      exact decide_eq_decide.mpr e
theorem relD_put {K : PySem.W.Frag} {m : Nat → Addr} {N : Nat} {G : Hp} {k : PV} {g : Key} {x : PV} {v : V} (hk : RelK k g) (hv : Rel K m N G x v) {xs : List (PV × PV)} {ks : List (Key × V)} (h : RelD K m N G xs ks) : RelD K m N G (Mi.putK k x xs) (L2.putK ks g v) := by
  obtain ⟨h1, h2⟩ := relD_upd hk hv h
  unfold Mi.putK
  by_cases hz : (xs.any fun kv => decide (kv.1 = k)) = true
  · rw [if_pos hz]
    rw [h2] at hz
    show RelD K m N G _ (if (ks.any fun kv => decide (kv.1 = g)) = true then _ else _)
    rw [if_pos hz]
    exact h1
  · rw [if_neg hz]
    rw [h2] at hz
    show RelD K m N G _ (if (ks.any fun kv => decide (kv.1 = g)) = true then _ else _)
    rw [if_neg hz]
    exact relD_app hk hv h
end
end Mi

set_option Elab.async false
set_option linter.all false
set_option maxRecDepth 100000
/-! Mi16: stores into things. -/
namespace Mi
open PySem PySem.Spec PyProof.Rows L2
theorem PSet.or {X : Cx} {t u : TSet} (a : PSet X t) (b : PSet X u) : PSet X (fun o i v H Q => t o i v H Q ∨ u o i v H Q) := fun pins s σ H o i v ov iv w Q I r1 r2 r3 q => q.elim (a pins s σ H o i v ov iv w Q I r1 r2 r3) (b pins s σ H o i v ov iv w Q I r1 r2 r3)
section
variable {X : Cx} {CT : Cts} {cl : Cl} {W : WX} {e e1 e2 e3 : Expr} {es : List Expr} {c c1 c2 c3 : E} {cs : List E} {s1 : S} {ss ts : List S} {st : Stmt} {sts stt : List Stmt} {pos apos p : Pos}
theorem S_seti (hu : X.A.units + 1 < cLine) (hcl : GroC cl) (h1 : PE X e1 (tE X.K CT cl W c1)) (h2 : PE X e2 (tE X.K CT cl W c2)) (h3 : PE X e3 (tE X.K CT cl W c3)) (hs : swapsWithSole [.Subscript e1 e2 p] e3 pos.line X.env = pure false) (hw : swappedStores [.Subscript e1 e2 p] e3 X.env = pure none)
    (ha : (assignEach [.Subscript e1 e2 p] X.env).map (·.2) = [assign (.Subscript e1 e2 p) X.env]) (hg : ∀ v, assign (.Subscript e1 e2 p) X.env v = (do
      let ov ← holding [v] (eval e1 X.env)
      let iv ← holding [v, ov] (eval e2 X.env)
      standAt p
      holding [v, ov, iv] (setItem ov iv v)
      release [v, ov, iv] [])) :
    PS X (.Assign [.Subscript e1 e2 p] e3 pos) (tS X.K CT cl W (.seti c1 c2 c3)) :=
  PSimp (ps_asg h3 (pg_sub h1 h2 (PSet.or set_list (set_dict hu)) hg) hs hw ha) fun D σ H ⟨m, G, h, ρ, R, s, q⟩ => by
    simp only [ex] at q
    refine sE_first hcl R s q fun x v h1 m1 G1 H1 _ _ _ R1 s1 r1 q1 => sE_first hcl R1 s1 q1 fun y u h2 m2 G2 H2 x2 g2 l2 R2 s2 r2 q2 => sE_first hcl R2 s2 q2 fun z w h3 m3 G3 H3 x3 g3 l3 R3 s3 r3 q3 => ?_
    have rx := (r1.mono x2 l2 g2).mono x3 l3 g3
    have ry := r2.mono x3 l3 g3
    unfold setiV at q3
    split at q3
    · rename_i n
      obtain ⟨rfl, hn⟩ := ry.ref_inv
      split at q3
      · rename_i xs ek
        split at q3
        · rename_i k
          obtain rfl := r3.int_inv
          split at q3
          · rename_i j ej
            obtain ⟨vs, hH, rl⟩ := R3.lst ek
            refine .inl ⟨_, vs, k, j, rfl, rfl, hH, by rw [← rl.length]; exact ej, ?_⟩
            have z2 := Post.put (u := .lst (vs.set j v)) q3 R3 ek rfl rfl fun H' e' => ⟨_, e', rl.set rx j⟩
            exact z2 σ s3
          · exact q3.elim
        · exact q3.elim
      · rename_i kvs ek
        split at q3
        · rename_i hc
          rw [Bool.and_eq_true, decide_eq_true_eq] at hc
          obtain ⟨g, rfl, hk⟩ := relK_of r3 hc.1
          obtain ⟨ks, hH, rd⟩ := R3.dic ek
          refine .inr ⟨_, _, rfl, DPut.k hH (by rw [← relD_len rd, ← szl_eq]; exact hc.2), ?_⟩
          have z2 := Post.put (u := .dK (L2.putK ks g v)) q3 R3 ek rfl rfl fun H' e' => ⟨_, e', relD_put hk rx rd⟩
          exact z2 σ s3
        · exact q3.elim
      · exact q3.elim
    · exact q3.elim
theorem relF_put {K : PySem.W.Frag} {m : Nat → Addr} {N : Nat} {G : Hp} {f : String} {x : PV} {v : V} (hv : Rel K m N G x v) : ∀ {fs : List (String × PV)} {gs : List (Str × V)}, RelF K m N G fs gs → RelF K m N G (putFs f x fs) (putF (Str.ofString f) v gs) ∧ fs.length = gs.length
  | [], [], _ => ⟨⟨rfl, hv, trivial⟩, rfl⟩
  | [], _ :: _, h => h.elim
  | _ :: _, [], h => h.elim
  | (a, b) :: r, (c, d) :: t, ⟨h1, h2, h3⟩ => by
    obtain ⟨i1, i2⟩ := relF_put (f := f) hv h3
    subst h1
    refine ⟨?_, by rw [List.length_cons, List.length_cons, i2]⟩
    unfold putFs putF
    by_cases hz : a = f
    · subst hz
      rw [if_pos rfl, if_pos rfl]
      exact ⟨rfl, hv, h3⟩
    · rw [if_neg hz, if_neg fun z => hz (ofString_inj z)]
      exact ⟨rfl, h2, i1⟩
theorem S_setf {f : String} {x : Str} (hx : x = Str.ofString f) (hcl : GroC cl) (cls : ∀ c C, CT.ins c C → Cls X.K C ∧ NoAttr X.K C x) (h1 : PE X e1 (tE X.K CT cl W c1)) (h3 : PE X e3 (tE X.K CT cl W c3)) (hs : swapsWith e3 (some (.Attribute e1 x p)) pos.line X.env = pure false) :
    PS X (.Assign [.Attribute e1 x p] e3 pos) (tS X.K CT cl W (.setf c1 f c3)) := by
  subst hx
  refine PSimp (ps_fld h1 h3 hs) fun D σ H ⟨m, G, h, ρ, R, s, q⟩ => ?_
  simp only [ex] at q
  refine sE_first hcl R s q fun x v h1 m1 G1 H1 _ _ _ R1 s1 r1 q1 => sE_first hcl R1 s1 q1 fun y u h2 m2 G2 H2 x2 g2 l2 R2 s2 r2 q2 => ?_
  have rx := r1.mono x2 l2 g2
  unfold setfV at q2
  split at q2
  · rename_i n
    obtain ⟨rfl, hn⟩ := r2.ref_inv
    split at q2
    · rename_i c0 fs ek
      split at q2
      · rename_i hl
        obtain ⟨C, dx, gs, ct, hH, rf⟩ := R2.ins ek
        obtain ⟨p1, p2⟩ := relF_put (f := f) rx rf
        refine ⟨_, C, dx, gs, rfl, hH, (cls c0 C ct).1, (cls c0 C ct).2, by omega, ?_⟩
        have z2 := Post.put (u := .ins C dx (putF (Str.ofString f) v gs)) q2 R2 ek rfl rfl fun H' e' => ⟨C, dx, _, ct, e', p1⟩
        exact z2 σ s2
      · exact q2.elim
    · exact q2.elim
  · exact q2.elim
theorem S_augf {f : String} {x : Str} {neg : Bool} {op : Operator} (ho : op = if neg then .Sub else .Add) (hx : x = Str.ofString f) (hcl : GroC cl) (cls : ∀ c C, CT.ins c C → Cls X.K C ∧ NoAttr X.K C x) (fn : ∀ c C C', CT.ins c C → CT.ins c C' → C = C') (h1 : PE X e1 (tE X.K CT cl W c1)) (h3 : PE X e3 (tE X.K CT cl W c3)) :
    PS X (.AugAssign (.Attribute e1 x p) op e3 pos) (tS X.K CT cl W (.augf c1 f neg c3)) := by
  subst hx
  have go : ∀ (op : Operator) (rd : V → V → Hp → VK → Prop), InOp X op rd → (∀ x y H Q, (∃ i j, x = V.int i ∧ y = V.int j ∧ Q (V.int (if neg then i - j else i + j)) H) → rd x y H Q) → PS X (.AugAssign (.Attribute e1 (Str.ofString f) p) op e3 pos) (tS X.K CT cl W (.augf c1 f neg c3)) := fun op rd hop hk =>
    PSimp (ps_fldaug h1 h3 hop) fun D σ H ⟨m, G, h, ρ, R, s, q⟩ => by
      simp only [ex] at q
      refine sE_first hcl R s q fun x v h1 m1 G1 H1 _ _ _ R1 s1 r1 q1 => ?_
      unfold fldI at q1
      split at q1
      · rename_i n
        obtain ⟨rfl, hn⟩ := r1.ref_inv
        split at q1
        · rename_i c0 fs ek
          obtain ⟨C, dx, gs, ct, hH, rf⟩ := R1.ins ek
          cases el : fs.lookup f with
          | none => rw [el] at q1; exact q1.elim
          | some y =>
            rw [el] at q1
            simp only [oneR, lift_ok] at q1
            obtain ⟨w, ew, rw'⟩ := (look_rel rf).1 y el
            refine ⟨_, C, dx, gs, w, rfl, hH, (cls c0 C ct).1, (cls c0 C ct).2, ew, sE_first hcl R1 s1 q1 fun z u h2 m2 G2 H2 x2 g2 l2 R2 s2 r2 q2 => hk _ _ _ _ ?_⟩
            have ry := rw'.mono x2 l2 g2
            split at q2
            · rename_i hsc
              unfold sameC at hsc
              simp only [ek] at hsc
              split at hsc
              · rename_i c5 fs5 c2 fs2 ek1 ek2
                injection ek1 with ek1
                injection ek1 with ek1
                have ecc : c0 = c2 := by rw [ek1]; exact of_decide_eq_true hsc
                subst ecc
                obtain ⟨C2, dx2, gs2, ct2, hH2, rf2⟩ := R2.ins ek2
                obtain rfl := fn _ _ _ ct ct2
                unfold augV at q2
                split at q2
                · obtain rfl := ry.int_inv
                  obtain rfl := r2.int_inv
                  simp only [lift_ok, setfV, ek2] at q2
                  split at q2
                  · rename_i hl
                    simp only [lift_ok] at q2
                    obtain ⟨p1, p2⟩ := relF_put (f := f) (Rel.int _) rf2
                    refine ⟨_, _, rfl, rfl, dx2, gs2, by rw [← x2 n hn]; exact hH2, by omega, ?_⟩
                    have z2 := Post.put (u := .ins C dx2 (putF (Str.ofString f) _ gs2)) q2 R2 ek2 rfl rfl fun H' e' => ⟨C, dx2, _, ct, e', p1⟩
                    rw [x2 n hn] at z2
                    exact z2 σ s2
                  · exact q2.elim
                · exact q2.elim
              · cases hsc
            · exact q2.elim
        · exact q1.elim
      · exact q1.elim
  subst ho
  cases neg with
  | true => exact go _ _ in_sub fun x y H Q ⟨i, j, a, b, q⟩ => ⟨i, j, a, b, q⟩
  | false => exact go _ _ in_add fun x y H Q ⟨i, j, a, b, q⟩ => ⟨i, j, a, b, q⟩
end
end Mi

set_option Elab.async false
set_option linter.all false
set_option maxRecDepth 100000
/-! Mi17: what is walked; for. -/
namespace Mi
open PySem PySem.Spec PyProof.Rows L2
/-- the tuples stay -/
def SubT (K : PySem.W.Frag) (G H : Hp) : Prop := ∀ a xs, SqT K G a xs → SqT K H a xs
theorem Sub.t {K : PySem.W.Frag} {G H : Hp} (s : Sub G H) : SubT K G H := fun _ _ q => s.sqT q
theorem SubT.trans {K : PySem.W.Frag} {G H J : Hp} (a : SubT K G H) (b : SubT K H J) : SubT K G J := fun x y q => b x y (a x y q)
mutual
theorem Rel.monoT {K : PySem.W.Frag} {m m' : Nat → Addr} {N N' : Nat} {G G' : Hp} (e : Ex m m' N) (l : N ≤ N') (t : SubT K G G') : ∀ {x : PV} {v : V}, Rel K m N G x v → Rel K m' N' G' x v
  | _, _, .non => .non
  | _, _, .bl b => .bl b
  | _, _, .int i => .int i
  | _, _, .str s => .str s
  | _, _, .ref (n := n) hn => by
    have q : Rel K m' N' G' (.ref n) (.ref (m' n)) := .ref (Nat.lt_of_lt_of_le hn l)
    rw [e n hn] at q
    exact q
  | _, _, .tup hs r => .tup (t _ _ hs) (RelL.monoT e l t r)
theorem RelL.monoT {K : PySem.W.Frag} {m m' : Nat → Addr} {N N' : Nat} {G G' : Hp} (e : Ex m m' N) (l : N ≤ N') (t : SubT K G G') : ∀ {x : List PV} {v : List V}, RelL K m N G x v → RelL K m' N' G' x v
  | _, _, .nil => .nil
  | _, _, .cons a r => .cons (Rel.monoT e l t a) (RelL.monoT e l t r)
end
/-- J walks i's items as long as i's things stay -/
structure IsW (K : PySem.W.Frag) (CT : Cts) (J : It) (i : Its) (m0 : Nat → Addr) (N0 : Nat) (G0 : Hp) : Prop where
  go : ∀ j m G H h, Ex m0 m N0 → SubT K G0 G → N0 ≤ h.length → HR K CT m G H h → okG i.g h = true → j < i.xs.length → J.go j H
  st : ∀ m G H h, Ex m0 m N0 → SubT K G0 G → N0 ≤ h.length → HR K CT m G H h → okG i.g h = true → J.stop i.xs.length H
  yl : ∀ j m G H h x H', Ex m0 m N0 → SubT K G0 G → N0 ≤ h.length → HR K CT m G H h → okG i.g h = true → j < i.xs.length → J.yld j H x H' → ∃ px G', i.xs[j]? = some px ∧ Sub G G' ∧ HR K CT m G' H' h ∧ Rel K m h.length G' px x ∧ ∀ b, H b ≠ none → H' b = H b ∧ G' b = G b
theorem IsW.rebase {K : PySem.W.Frag} {CT : Cts} {J : It} {i : Its} {m0 : Nat → Addr} {N0 : Nat} {G0 G0' : Hp} (w : IsW K CT J i m0 N0 G0) (t : SubT K G0 G0') : IsW K CT J i m0 N0 G0' :=
  ⟨fun j m G H h e s => w.go j m G H h e (t.trans s), fun m G H h e s => w.st m G H h e (t.trans s), fun j m G H h x H' e s => w.yl j m G H h x H' e (t.trans s)⟩
abbrev relI (K : PySem.W.Frag) (CT : Cts) (m : Nat → Addr) (N : Nat) (G : Hp) : Its → It → Prop := fun i J => IsW K CT J i m N G
def itsE (cl : Cl) (ik : IK) (cs : List E) (ρ : Mi.Env) (h : PH) : R Its := (evs cl cs ρ h).bind fun vs h1 => match itsOf ik vs h1 with
  | some i => .ok i h1
  | none => .bad
theorem itsE_gro {cl : Cl} (hc : GroC cl) {ik : IK} {cs : List E} {ρ : Mi.Env} {h : PH} : Gro h (itsE cl ik cs ρ h) := (evs_gro hc cs ρ h).bind fun vs h1 _ => by split <;> first | trivial | exact Gro.refl
def tI (K : PySem.W.Frag) (CT : Cts) (cl : Cl) (W : WX) (ik : IK) (cs : List E) : TI := fun σ H R => ∃ m G h ρ, HR K CT m G H h ∧ SR K m h.length G ρ σ ∧ Post K CT (relI K CT) W σ m G h.length R (itsE cl ik cs ρ h)
/-! ### walks -/
section
variable {K : PySem.W.Frag} {CT : Cts} {m m0 : Nat → Addr} {N0 : Nat} {G0 G H : Hp} {h : PH} {v : PV} {u : V}
theorem okG1 {n : Nat} {o : PO} (e : okG [(n, o)] h = true) : h[n]? = some o := by simpa [okG] using e
theorem okG_app {g g' : Gd} (e : okG (g ++ g') h = true) : okG g h = true ∧ okG g' h = true := by
  unfold okG at *
  rw [List.all_append, Bool.and_eq_true] at e
  exact e
/-- a list of the store, where it stands -/
def LstAt (K : PySem.W.Frag) (CT : Cts) (a : Addr) (i : Its) (m0 : Nat → Addr) (N0 : Nat) (G0 : Hp) : Prop := ∀ m G H h, Ex m0 m N0 → SubT K G0 G → N0 ≤ h.length → HR K CT m G H h → okG i.g h = true → ∃ vs, SqL K H a vs ∧ RelL K m h.length G i.xs vs
theorem lstAt_of {n : Nat} {i : Its} (hn : n < N0) (h1 : i.g = [(n, .lst i.xs)] ∨ i.g = [(n, .frz i.xs)]) : LstAt K CT (m0 n) i m0 N0 G0 := fun m G H h e t l R ok => by
  rcases h1 with h1 | h1
  · rw [h1] at ok
    obtain ⟨vs, hH, rl⟩ := R.lst (okG1 ok)
    rw [e n hn] at hH
    exact ⟨vs, .of hH, rl⟩
  · rw [h1] at ok
    obtain ⟨vs, hH, rl⟩ := R.frz (okG1 ok)
    rw [e n hn] at hH
    exact ⟨vs, hH, rl⟩
theorem w_list {a : Addr} {i : Its} (L : LstAt K CT a i m0 N0 G0) : IsW K CT (Itl K a) i m0 N0 G0 :=
  ⟨fun j m G H h e t l R ok hj => by
    obtain ⟨vs, hq, rl⟩ := L m G H h e t l R ok
    exact walk_list.goes j H (by rw [← rl.length]; exact hj) hq,
  fun m G H h e t l R ok => by
    obtain ⟨vs, hq, rl⟩ := L m G H h e t l R ok
    rw [rl.length]
    exact walk_list.stops H hq,
  fun j m G H h x H' e t l R ok hj y => by
    obtain ⟨vs, hq, rl⟩ := L m G H h e t l R ok
    obtain ⟨e1, e2⟩ := walk_list.yields j H x H' (by rw [← rl.length]; exact hj) hq y
    subst e1
    obtain ⟨w, e3, r⟩ := rl.get (List.getElem?_eq_getElem hj)
    rw [e2] at e3
    injection e3 with e3
    subst e3
    exact ⟨_, G, List.getElem?_eq_getElem hj, Sub.refl, R, r, fun _ _ => ⟨rfl, rfl⟩⟩⟩
theorem w_tup {a : Addr} {xs : List PV} {vs : List V} (hT : SqT K G0 a vs) (r0 : RelL K m0 N0 G0 xs vs) : IsW K CT (Itt K a) ⟨xs, []⟩ m0 N0 G0 :=
  ⟨fun j m G H h e t l R ok hj => walk_tup.goes j H (by rw [← r0.length]; exact hj) (R.sub.sqT (t _ _ hT)),
  fun m G H h e t l R ok => by
    show (Itt K a).stop xs.length H
    rw [r0.length]
    exact walk_tup.stops H (R.sub.sqT (t _ _ hT)),
  fun j m G H h x H' e t l R ok hj y => by
    obtain ⟨e1, e2⟩ := walk_tup.yields j H x H' (by rw [← r0.length]; exact hj) (R.sub.sqT (t _ _ hT)) y
    subst e1
    obtain ⟨w, e3, r⟩ := r0.get (List.getElem?_eq_getElem hj)
    rw [e2] at e3
    injection e3 with e3
    subst e3
    exact ⟨_, G, List.getElem?_eq_getElem hj, Sub.refl, R, r.monoT e l t, fun _ _ => ⟨rfl, rfl⟩⟩⟩
theorem w_str {s : List Char} : IsW K CT (L2.Its (S2 s)) ⟨s.map fun c => .str [c], []⟩ m0 N0 G0 := by
  have hz : (S2 s).cps.size = s.length := by simp [S2]
  refine ⟨fun j m G H h e t l R ok hj => walk_str.goes j H (by rw [hz]; simpa using hj) trivial, fun m G H h e t l R ok => ?_, fun j m G H h x H' e t l R ok hj y => ?_⟩
  · show (L2.Its (S2 s)).stop (s.map fun c => PV.str [c]).length H
    rw [List.length_map, ← hz]
    exact walk_str.stops H trivial
  · have hj' : j < s.length := by simpa using hj
    obtain ⟨e1, c, e2, e3⟩ := walk_str.yields j H x H' (by rw [hz]; exact hj') trivial y
    subst e1
    refine ⟨.str [s[j]], G, by simp [hj'], Sub.refl, R, ?_, fun _ _ => ⟨rfl, rfl⟩⟩
    have e4 : c = s[j].toNat := by
      have : (S2 s).cps[j]? = some (s[j].toNat) := by simp [S2, hj']
      rw [this] at e2
      injection e2 with e2
      exact e2.symm
    rw [e3, e4]
    exact .str [s[j]]
theorem w_range {lo : Int} {n : Nat} : IsW K CT (Itr lo n) ⟨rngL lo n, []⟩ m0 N0 G0 := by
  have hl : (rngL lo n).length = n := by simp [rngL]
  refine ⟨fun j m G H h e t l R ok hj => walk_range.goes j H (by rw [← hl]; exact hj) trivial, fun m G H h e t l R ok => ?_, fun j m G H h x H' e t l R ok hj y => ?_⟩
  · show (Itr lo n).stop (rngL lo n).length H
    rw [hl]
    exact walk_range.stops H trivial
  · have hj' : j < n := by rw [← hl]; exact hj
    obtain ⟨e1, e2⟩ := walk_range.yields j H x H' hj' trivial y
    subst e1
    exact ⟨.int (lo + (j : Nat)), G, by simp [rngL, hj'], Sub.refl, R, by rw [e2]; exact .int _, fun _ _ => ⟨rfl, rfl⟩⟩
theorem enumL_len (lo : Nat) (xs : List PV) : (enumL lo xs).length = xs.length := by
  induction xs generalizing lo with
  | nil => rfl
  | cons x r ih => rw [enumL, List.length_cons, List.length_cons, ih]
theorem enumL_get (lo : Nat) (xs : List PV) (j : Nat) (x : PV) (h : xs[j]? = some x) : (enumL lo xs)[j]? = some (.tup [.int ((lo + j : Nat) : Int), x]) := by
  induction xs generalizing lo j with
  | nil => simp at h
  | cons y r ih =>
    cases j with
    | zero =>
      simp at h
      subst h
      simp [enumL]
    | succ j =>
      rw [enumL, List.getElem?_cons_succ, ih (lo + 1) j (by simpa using h)]
      congr 5
      omega
/-- a new pair -/
theorem pair_rel {N : Nat} {px py : PV} {x y : V} {T : Addr} (R : HR K CT m G H h) (hT : H T = none) (hx : Rel K m h.length G px x) (hy : Rel K m h.length G py y) :
    Sub G (upd G T (.tup [x, y])) ∧ HR K CT m (upd G T (.tup [x, y])) (upd H T (.tup [x, y])) h ∧ Rel K m h.length (upd G T (.tup [x, y])) (.tup [px, py]) (.ref T) := by
  obtain ⟨R', sg⟩ := R.newT (u := .tup [x, y]) hT
  exact ⟨sg, R', .tup (.inl (.inl upd_same)) (.cons (hx.mono Ex.refl (Nat.le_refl _) sg) (.cons (hy.mono Ex.refl (Nat.le_refl _) sg) .nil))⟩
theorem keep_two {T : Addr} {u : HO} (hT : H T = none) : ∀ b, H b ≠ none → upd H T u b = H b ∧ upd G T u b = G b := fun b hb => ⟨keep_upd hT b hb, upd_ne fun z => hb (by rw [z]; exact hT)⟩
theorem w_enum {a : Addr} {i : Its} (L : LstAt K CT a i m0 N0 G0) : IsW K CT (Ite K a) ⟨enumL 0 i.xs, i.g⟩ m0 N0 G0 :=
  ⟨fun j m G H h e t l R ok hj => by
    obtain ⟨vs, hq, rl⟩ := L m G H h e t l R ok
    exact walk_enum.goes j H (by rw [← rl.length, ← enumL_len 0]; exact hj) hq,
  fun m G H h e t l R ok => by
    obtain ⟨vs, hq, rl⟩ := L m G H h e t l R ok
    show (Ite K a).stop (enumL 0 i.xs).length H
    rw [enumL_len, rl.length]
    exact walk_enum.stops H hq,
  fun j m G H h x H' e t l R ok hj y => by
    obtain ⟨vs, hq, rl⟩ := L m G H h e t l R ok
    have hj' : j < i.xs.length := by rw [← enumL_len 0]; exact hj
    obtain ⟨T, x1, x2, e1, hT, e2, e3, e4⟩ := walk_enum.yields j H x H' (by rw [← rl.length]; exact hj') hq y
    injection e3 with e3
    subst e1 e2 e3
    obtain ⟨w, e5, r⟩ := rl.get (List.getElem?_eq_getElem hj')
    have e4 : vs[j]? = some x2 := e4
    rw [e4] at e5
    injection e5 with e5
    subst e5
    obtain ⟨p1, p2, p3⟩ := pair_rel (N := 0) R hT (.int (j : Nat)) r
    refine ⟨_, _, enumL_get 0 i.xs j _ (List.getElem?_eq_getElem hj'), p1, p2, ?_, keep_two hT⟩
    rw [Nat.zero_add]
    exact p3⟩
theorem zipL_len : ∀ (xs ys : List PV), (zipL xs ys).length = min xs.length ys.length
  | [], ys => by simp [zipL]
  | _ :: _, [] => by simp [zipL]
  | x :: r, y :: t => by rw [zipL, List.length_cons, zipL_len r t, List.length_cons, List.length_cons]; omega
theorem zipL_get : ∀ (xs ys : List PV) (j : Nat) (x y : PV), xs[j]? = some x → ys[j]? = some y → (zipL xs ys)[j]? = some (.tup [x, y])
  | [], _, j, _, _, h, _ => by simp at h
  | _ :: _, [], j, _, _, _, h => by simp at h
  | a :: r, b :: t, 0, x, y, h1, h2 => by
    simp at h1 h2
    subst h1 h2
    simp [zipL]
  | a :: r, b :: t, j + 1, x, y, h1, h2 => by
    rw [zipL, List.getElem?_cons_succ]
    exact zipL_get r t j x y (by simpa using h1) (by simpa using h2)
theorem w_zip {a b : Addr} {i k : Its} (L : LstAt K CT a i m0 N0 G0) (M : LstAt K CT b k m0 N0 G0) : IsW K CT (Itz K a b) ⟨zipL i.xs k.xs, i.g ++ k.g⟩ m0 N0 G0 :=
  ⟨fun j m G H h e t l R ok hj => by
    obtain ⟨vs, hq, rl⟩ := L m G H h e t l R (okG_app ok).1
    obtain ⟨us, hq2, rl2⟩ := M m G H h e t l R (okG_app ok).2
    exact (walk_zip rfl).goes j H (by rw [← rl.length, ← rl2.length, ← zipL_len]; exact hj) ⟨hq, hq2⟩,
  fun m G H h e t l R ok => by
    obtain ⟨vs, hq, rl⟩ := L m G H h e t l R (okG_app ok).1
    obtain ⟨us, hq2, rl2⟩ := M m G H h e t l R (okG_app ok).2
    show (Itz K a b).stop (zipL i.xs k.xs).length H
    exact (walk_zip (by rw [zipL_len, rl.length, rl2.length])).stops H ⟨hq, hq2⟩,
  fun j m G H h x H' e t l R ok hj y => by
    obtain ⟨vs, hq, rl⟩ := L m G H h e t l R (okG_app ok).1
    obtain ⟨us, hq2, rl2⟩ := M m G H h e t l R (okG_app ok).2
    have hj0 : j < min i.xs.length k.xs.length := by rw [← zipL_len]; exact hj
    have hj1 : j < i.xs.length := by omega
    have hj2 : j < k.xs.length := by omega
    obtain ⟨T, x1, x2, e1, hT, e2, e3, e4⟩ := (walk_zip rfl).yields j H x H' (by rw [← rl.length, ← rl2.length]; exact hj0) ⟨hq, hq2⟩ y
    subst e1 e2
    obtain ⟨w, e5, r⟩ := rl.get (List.getElem?_eq_getElem hj1)
    obtain ⟨w2, e6, r2⟩ := rl2.get (List.getElem?_eq_getElem hj2)
    have e3 : vs[j]? = some x1 := e3
    have e4 : us[j]? = some x2 := e4
    rw [e3] at e5
    rw [e4] at e6
    injection e5 with e5
    injection e6 with e6
    subst e5 e6
    obtain ⟨p1, p2, p3⟩ := pair_rel (N := 0) R hT r r2
    exact ⟨_, _, zipL_get _ _ j _ _ (List.getElem?_eq_getElem hj1) (List.getElem?_eq_getElem hj2), p1, p2, p3, keep_two hT⟩⟩
/-- what a value's items are -/
theorem val_at {i : Its} (R : HR K CT m G H h) (r : Rel K m h.length G v u) (e : ofVal v h = some i) : (∃ a, u = .ref a ∧ (∃ vs, SqL K H a vs) ∧ LstAt K CT a i m h.length G) ∨ (∃ a xs vs, u = .ref a ∧ i = ⟨xs, []⟩ ∧ SqT K G a vs ∧ RelL K m h.length G xs vs) ∨ ∃ s, u = .str (S2 s) ∧ i = ⟨s.map fun c => .str [c], []⟩ := by
  unfold ofVal at e
  split at e
  · injection e with e
    subst e
    obtain ⟨a, vs, rfl, ht, rl⟩ := r.tup_inv
    exact .inr (.inl ⟨a, _, vs, rfl, rfl, ht, rl⟩)
  · split at e
    · injection e with e
      subst e
      exact .inr (.inr ⟨_, r.str_inv, rfl⟩)
    · cases e
  · rename_i n
    obtain ⟨rfl, hn⟩ := r.ref_inv
    split at e
    · rename_i xs ek
      injection e with e
      subst e
      obtain ⟨vs, hH, rl⟩ := R.lst ek
      exact .inl ⟨_, rfl, ⟨vs, .of hH⟩, lstAt_of hn (.inl rfl)⟩
    · rename_i xs ek
      injection e with e
      subst e
      obtain ⟨vs, hH, rl⟩ := R.frz ek
      exact .inl ⟨_, rfl, ⟨vs, hH⟩, lstAt_of hn (.inr rfl)⟩
    · cases e
  · cases e
end
end Mi

set_option Elab.async false
set_option linter.all false
set_option maxRecDepth 100000
/-! Mi18: iterators made; for; comprehensions. -/
namespace Mi
open PySem PySem.Spec PyProof.Rows L2
section
variable {X : Cx} {tg : Expr}
/-- what a value's iterator is, once the value is there -/
theorem it_list {pins : List (Addr × Obj)} {σ : L2.St} {H : Hp} {s : Shared} {R : It → Hp → Prop} {E : Value → Shared → Prop} {a : Addr} {xs : List V} (I : Inv X pins σ H s) (hq : SqL X.K H a xs) (q : R (Itl X.K a) H) : wpAny (model X.prog X.w) X.A (pyIter (.ref a)) (PIE X pins σ tg R) E s := by
  obtain ⟨vals, _, plain, _⟩ := I.list hq
  exact wpAny_pyIter_list plain.isList (pi_one (tk := s.toks) I _ (turn_list a _) ⟨_, Heap.get?_push_size _ rfl, rfl, rfl⟩ q)
theorem it_tup {pins : List (Addr × Obj)} {σ : L2.St} {H : Hp} {s : Shared} {R : It → Hp → Prop} {E : Value → Shared → Prop} {a : Addr} {xs : List V} (I : Inv X pins σ H s) (hq : SqT X.K H a xs) (q : R (Itt X.K a) H) : wpAny (model X.prog X.w) X.A (pyIter (.ref a)) (PIE X pins σ tg R) E s := by
  obtain ⟨vals, _, plain, _⟩ := I.tuple hq
  exact wpAny_pyIter_tuple plain (pi_one (tk := s.toks) I _ (turn_tuple a _) ⟨_, Heap.get?_push_size _ rfl, rfl, rfl⟩ q)
theorem it_str {pins : List (Addr × Obj)} {σ : L2.St} {H : Hp} {s : Shared} {R : It → Hp → Prop} {E : Value → Shared → Prop} {x : Str} {t : Tok} (I : Inv X pins σ H s) (q : R (L2.Its x) H) : wpAny (model X.prog X.w) X.A (pyIter (.str x t)) (PIE X pins σ tg R) E s := by
  by_cases hx : x.cps.all (· < 128) = true
  · exact wpAny_pyIter_ascii hx (pi_one (tk := s.toks) I _ (turn_str _ x t "str_ascii_iterator" (Or.inl rfl)) ⟨_, Heap.get?_push_size _ rfl, rfl, rfl⟩ q)
  · rw [Bool.not_eq_true] at hx
    exact wpAny_pyIter_wide hx (pi_one (tk := s.toks) I _ (turn_str _ x t "str_iterator" (Or.inr rfl)) ⟨_, Heap.get?_push_size _ rfl, rfl, rfl⟩ q)
/-- a list, a tuple or a text -/
def iDyn (K : PySem.W.Frag) (te : TE) : TI := fun σ H R => te σ H fun v H1 => (∃ a, v = .ref a ∧ (∃ xs, SqL K H1 a xs) ∧ R (Itl K a) H1) ∨ (∃ a, v = .ref a ∧ (∃ xs, SqT K H1 a xs) ∧ R (Itt K a) H1) ∨ ∃ x, v = .str x ∧ R (L2.Its x) H1
theorem pi_dyn {e : Expr} {te : TE} (he : PE X e te) : PI X tg e (iDyn X.K te) := ⟨fun pins s σ H R I h => thn (he.run pins s σ H _ I h) fun v s1 ⟨y, H1, I1, r1, q⟩ => by
  rcases q with ⟨a, rfl, ⟨xs, hq⟩, q⟩ | ⟨a, rfl, ⟨xs, hq⟩, q⟩ | ⟨x, rfl, q⟩
  · cases r1
    exact it_list I1 hq q
  · cases r1
    exact it_tup I1 hq q
  · obtain ⟨t, rfl⟩ := r1
    exact it_str I1 q⟩
end
theorem PIimp {X : Cx} {tg e : Expr} {t t' : TI} (p : PI X tg e t) (i : ∀ σ H R, t' σ H R → t σ H R) : PI X tg e t' := ⟨fun pins s σ H R I h => p.run pins s σ H R I (i σ H R h)⟩
section
variable {X : Cx} {CT : Cts} {cl : Cl} {W : WX} {tg : Expr} {vv : List Nat} {e e1 e2 e3 : Expr} {es : List Expr} {c c1 c2 c3 : E} {cs : List E} {s1 : S} {ss ts : List S} {st : Stmt} {sts stt : List Stmt} {pos apos p : Pos}
/-- the items' source evaluated -/
theorem tI_first {ik : IK} {σ : L2.St} {H : Hp} {R : It → Hp → Prop} {Q1 : List V → Hp → Prop} (hcl : GroC cl) (hI : tI X.K CT cl W ik cs σ H R)
    (k : ∀ xs vs h1 m1 G1 H1 i, HR X.K CT m1 G1 H1 h1 → RelL X.K m1 h1.length G1 xs vs → itsOf ik xs h1 = some i → (∀ J, IsW X.K CT J i m1 h1.length G1 → R J H1) → Q1 vs H1) : tA X.K CT cl W cs σ H Q1 := by
  obtain ⟨m, G, h, ρ, Rr, s, q⟩ := hI
  refine tA_first hcl Rr s q fun xs vs h1 m1 G1 H1 e1 e2 le R1 s1 rl q1 => ?_
  split at q1
  · rename_i i ei
    exact k xs vs h1 m1 G1 H1 i R1 rl ei fun J w => q1 m1 G1 H1 J Ex.refl Sub.refl R1 w
  · exact q1.elim
theorem tI_one {ik : IK} {σ : L2.St} {H : Hp} {R : It → Hp → Prop} {Q1 : VK} (hcl : GroC cl) (hI : tI X.K CT cl W ik [c] σ H R)
    (k : ∀ x v h1 m1 G1 H1 i, HR X.K CT m1 G1 H1 h1 → Rel X.K m1 h1.length G1 x v → itsOf ik [x] h1 = some i → (∀ J, IsW X.K CT J i m1 h1.length G1 → R J H1) → Q1 v H1) : tE X.K CT cl W c σ H Q1 := by
  obtain ⟨m, G, h, ρ, Rr, s, q⟩ := hI
  have z : itsE cl ik [c] ρ h = (ev cl c ρ h).bind fun x h1 => match itsOf ik [x] h1 with
      | some i => .ok i h1
      | none => .bad := by
    unfold itsE
    simp only [evs]
    cases ev cl c ρ h <;> rfl
  rw [z] at q
  refine tE_first hcl Rr s q fun x v h1 m1 G1 H1 e1 e2 le R1 s1 rl q1 => ?_
  split at q1
  · rename_i i ei
    exact k x v h1 m1 G1 H1 i R1 rl ei fun J w => q1 m1 G1 H1 J Ex.refl Sub.refl R1 w
  · exact q1.elim
theorem P_val (hcl : GroC cl) (h1 : PE X e (tE X.K CT cl W c)) : PI X tg e (tI X.K CT cl W .val [c]) := PIimp (pi_dyn h1) fun σ H R hI =>
  tI_one hcl hI fun x v h1 m1 G1 H1 i R1 r1 ei q => by
    rcases val_at R1 r1 ei with ⟨a, rfl, hv, L⟩ | ⟨a, xs, vs, rfl, rfl, hT, rl⟩ | ⟨s, rfl, rfl⟩
    · exact .inl ⟨a, rfl, hv, q _ (w_list L)⟩
    · exact .inr (.inl ⟨a, rfl, ⟨vs, R1.sub.sqT hT⟩, q _ (w_tup hT rl)⟩)
    · exact .inr (.inr ⟨_, rfl, q _ w_str⟩)
theorem sm62 {i : Int} (h : small62 i = true) : -(2 ^ 62) ≤ i ∧ i < 2 ^ 62 := of_decide_eq_true h
theorem P_rng1 (hcl : GroC cl) (hg : Gl X "range") (hm : X.mg "range" = none) (ha : PA X [e] (tA X.K CT cl W [c])) (hs : starEach [e] X.env = [(false, eval e X.env)]) : PI X tg (.Call (.Name "range" p) [e] [] pos) (tI X.K CT cl W .rng [c]) := PIimp (pi_range1 hg hm ha hs) fun σ H R hI =>
  tI_first hcl hI fun xs vs h1 m1 G1 H1 i R1 rl ei q => by
    unfold itsOf at ei
    simp only at ei
    split at ei
    · split at ei
      · rename_i hz
        injection ei with ei
        subst ei
        obtain ⟨v, rfl, rv⟩ := rl.one_inv
        obtain rfl := rv.int_inv
        have := sm62 hz
        exact ⟨_, rfl, this.1, this.2, q _ w_range⟩
      · cases ei
    · cases ei
theorem P_rng2 (hcl : GroC cl) (hg : Gl X "range") (hm : X.mg "range" = none) (ha : PA X [e1, e2] (tA X.K CT cl W [c1, c2])) (hs : starEach [e1, e2] X.env = [(false, eval e1 X.env), (false, eval e2 X.env)]) (hs2 : starEach [e2] X.env = [(false, eval e2 X.env)]) : PI X tg (.Call (.Name "range" p) [e1, e2] [] pos) (tI X.K CT cl W .rng2 [c1, c2]) := PIimp (pi_range2 hg hm ha hs hs2) fun σ H R hI =>
  tI_first hcl hI fun xs vs h1 m1 G1 H1 i R1 rl ei q => by
    unfold itsOf at ei
    simp only at ei
    split at ei
    · split at ei
      · rename_i hz
        injection ei with ei
        subst ei
        obtain ⟨v, w, rfl, rv, rw'⟩ := rl.two_inv
        obtain rfl := rv.int_inv
        obtain rfl := rw'.int_inv
        rw [Bool.and_eq_true] at hz
        have h1 := sm62 hz.1
        have h2 := sm62 hz.2
        exact ⟨_, _, rfl, ⟨h1.1, h1.2, h2.1, h2.2⟩, q _ w_range⟩
      · cases ei
    · cases ei
/-- a list's items -/
theorem lst_its {m : Nat → Addr} {G H : Hp} {h : PH} {v : PV} {u : V} {i : Its} (R : HR X.K CT m G H h) (r : Rel X.K m h.length G v u) (e : ofLst v h = some i) : ∃ a vs, u = .ref a ∧ SqL X.K H a vs ∧ LstAt X.K CT a i m h.length G := by
  unfold ofLst at e
  split at e
  · rename_i n
    obtain ⟨rfl, hn⟩ := r.ref_inv
    split at e
    · rename_i xs ek
      injection e with e
      subst e
      obtain ⟨vs, hH, rl⟩ := R.lst ek
      exact ⟨_, vs, rfl, .of hH, lstAt_of hn (.inl rfl)⟩
    · rename_i xs ek
      injection e with e
      subst e
      obtain ⟨vs, hH, rl⟩ := R.frz ek
      exact ⟨_, vs, rfl, hH, lstAt_of hn (.inr rfl)⟩
    · cases e
  · cases e
theorem P_enum {elts : List Expr} {kk : Nat} {tpos : Pos} (hcl : GroC cl) (hg : Gl X "enumerate") (hm : X.mg "enumerate" = none) (ha : PA X [e] (tA X.K CT cl W [c])) (hs : starEach [e] X.env = [(false, eval e X.env)]) : PI X (.Tuple elts kk tpos) (.Call (.Name "enumerate" p) [e] [] pos) (tI X.K CT cl W .enum [c]) := PIimp (pi_enum hg hm ha hs) fun σ H R hI =>
  tI_first hcl hI fun xs vs h1 m1 G1 H1 i R1 rl ei q => by
    unfold itsOf at ei
    simp only at ei
    split at ei
    · rename_i x
      obtain ⟨v, rfl, rv⟩ := rl.one_inv
      cases eo : ofLst x h1 with
      | none => rw [eo] at ei; cases ei
      | some k =>
        rw [eo] at ei
        injection ei with ei
        subst ei
        obtain ⟨a, us, rfl, hq, L⟩ := lst_its R1 rv eo
        exact ⟨a, us, rfl, hq, q _ (w_enum L)⟩
    · cases ei
theorem P_zip {elts : List Expr} {kk : Nat} {tpos : Pos} (hcl : GroC cl) (hg : Gl X "zip") (hm : X.mg "zip" = none) (ha : PA X [e1, e2] (tA X.K CT cl W [c1, c2])) (hs : starEach [e1, e2] X.env = (false, eval e1 X.env) :: starEach [e2] X.env) (hpl : (backTo pos (starEach [e2] X.env)).any (·.1) = false) : PI X (.Tuple elts kk tpos) (.Call (.Name "zip" p) [e1, e2] [] pos) (tI X.K CT cl W .zip [c1, c2]) := PIimp (pi_zip hg hm ha hs hpl) fun σ H R hI =>
  tI_first hcl hI fun xs vs h1 m1 G1 H1 i R1 rl ei q => by
    unfold itsOf at ei
    simp only at ei
    split at ei
    · rename_i x y
      obtain ⟨v, w, rfl, rv, rw'⟩ := rl.two_inv
      split at ei
      · rename_i i1 i2 e1 e2
        injection ei with ei
        subst ei
        obtain ⟨a, us, rfl, hq, L⟩ := lst_its R1 rv e1
        obtain ⟨b, ws, rfl, hq2, M⟩ := lst_its R1 rw' e2
        exact ⟨a, b, us, ws, rfl, hq, hq2, q _ (w_zip L M)⟩
      · cases ei
    · cases ei
/-! ### for -/
theorem itsE_lift {ik : IK} {ρ : Mi.Env} {h : PH} {f : Its → PH → R Fl} : ((evs cl cs ρ h).lift ρ fun vs h1 => match itsOf ik vs h1 with
    | some i => f i h1
    | none => .bad) = (itsE cl ik cs ρ h).lift ρ f := by
  unfold itsE
  cases evs cl cs ρ h with
  | ok vs h1 =>
    simp only [lift_ok, bind_ok]
    cases itsOf ik vs h1 <;> rfl
  | _ => rfl
theorem drop_get {α : Type} {xs : List α} {j : Nat} (h : j < xs.length) : xs.drop j = xs[j] :: xs.drop (j + 1) := List.drop_eq_getElem_cons h
theorem S_for {ik : IK} {t : T} (hcl : GroC cl) (hp : PassesOwn (model X.prog X.w) X.A X.env X.xe) (hc : X.calm = true) (hi : PI X tg e (tI X.K CT cl W ik cs)) (hg : PG X tg (tG X.K CT vv t)) (hb : PSs X sts (tSs X.K CT cl W ss)) (hs : ∀ x, foldedSetIterable e X.env x = pure x) :
    PS X (.For tg e sts [] pos) (tS X.K CT cl W (.for_ t ik cs ss)) :=
  PSimp (ps_for hp hc hi hg hb hs) fun D σ H ⟨m, G, h, ρ, R, s, q⟩ => by
    simp only [ex] at q
    have q := (congrArg (PostF X.K CT W D m G h.length) (itsE_lift (cl := cl) (cs := cs) (ik := ik) (ρ := ρ) (h := h) (f := fun i h1 => forL i.g (fun x ρ1 h2 => match bindT h2 t x ρ1 with
        | some ρ2 => exs cl ss ρ2 h2
        | none => .bad) i.xs ρ h1))).mp q
    refine ⟨m, G, h, ρ, R, s, (PostF.lift (rel := relI X.K CT) (itsE_gro hcl) s q).mono fun J H1 ⟨i, h1, m1, G1, e1, e2, R1, w, le, q1⟩ => ?_⟩
    refine ⟨fun j n σ H => n = i.xs.length - j ∧ j ≤ i.xs.length ∧ ∃ m G h ρ, Ex m1 m h1.length ∧ Sub G1 G ∧ h1.length ≤ h.length ∧ HR X.K CT m G H h ∧ SR X.K m h.length G ρ σ ∧ PostF X.K CT W D m G h.length (forL i.g (fun x ρ1 h2 => match bindT h2 t x ρ1 with
        | some ρ2 => exs cl ss ρ2 h2
        | none => .bad) (i.xs.drop j) ρ h), ⟨_, rfl, Nat.zero_le _, m1, G1, h1, ρ, Ex.refl, Sub.refl, Nat.le_refl _, R1, s.mono e1 le e2, q1⟩, ?_⟩
    rintro j n σ H ⟨rfl, hj, m, G, h, ρ, x1, x2, x3, R, s, q⟩
    by_cases hlt : j < i.xs.length
    · refine .inr ?_
      rw [drop_get hlt] at q
      unfold forL at q
      split at q
      · rename_i ok
        refine ⟨w.go j m G H h x1 x2.t x3 R ok hlt, fun σ' H' => ∃ m G h ρ, Ex m1 m h1.length ∧ Sub G1 G ∧ h1.length ≤ h.length ∧ HR X.K CT m G H' h ∧ SR X.K m h.length G ρ σ' ∧ PostF X.K CT W D m G h.length (forL i.g (fun x ρ1 h2 => match bindT h2 t x ρ1 with
          | some ρ2 => exs cl ss ρ2 h2
          | none => .bad) (i.xs.drop (j + 1)) ρ h), fun σ' H' z => ⟨_, by omega, rfl, hlt, z⟩, fun x H' y => ?_⟩
        obtain ⟨px, G', ep, sg, R', rx, _⟩ := w.yl j m G H h x H' x1 x2.t x3 R ok hlt y
        rw [List.getElem?_eq_getElem hlt] at ep
        injection ep with ep
        rw [ep] at q
        cases eb : bindT h t px ρ with
        | none =>
          simp only [eb] at q
          exact q.elim
        | some ρ2 =>
          simp only [eb] at q
          refine ⟨m, G', h, ρ, ρ2, px, R', s.mono Ex.refl (Nat.le_refl _) sg, rx, eb, fun σ2 s2 _ => ?_⟩
          have q' := PostF.later q Ex.refl (Nat.le_refl _) sg
          refine ⟨m, G', h, ρ2, R', s2, q'.seq (exs_gro hcl ss ρ2 h) fun f h3 m3 G3 H3 y1 y2 R3 l3 q3 => ?_⟩
          cases f with
          | nx ρ3 => exact fun σ' s' => ⟨m3, G3, h3, ρ3, x1.trans y1 x3, (x2.trans sg).trans y2, Nat.le_trans x3 l3, R3, s', q3⟩
          | ct ρ3 => exact fun σ' s' => ⟨m3, G3, h3, ρ3, x1.trans y1 x3, (x2.trans sg).trans y2, Nat.le_trans x3 l3, R3, s', q3⟩
          | bk ρ3 => exact q3.now R3
          | rt v => exact q3.now R3
          | xc x ρ3 => exact q3.now R3
      · exact q.elim
    · have ej : j = i.xs.length := by omega
      subst ej
      refine .inl ?_
      rw [List.drop_length] at q
      unfold forL at q
      split at q
      · rename_i ok
        exact ⟨w.st m G H h x1 x2.t x3 R ok, q.now R σ s⟩
      · exact q.elim
end
end Mi

set_option Elab.async false
set_option linter.all false
set_option maxRecDepth 100000
/-! Mi19: list comprehensions. -/
namespace Mi
open PySem PySem.Spec PyProof.Rows L2
/-! ### the list that grows: within the ghost part while a turn runs -/
def dropG (G : Hp) (D : Addr) : Hp := fun b => if b = D then none else G b
theorem dropG_ne {G : Hp} {D b : Addr} (h : b ≠ D) : dropG G D b = G b := if_neg h
theorem dropG_eq {G : Hp} {D : Addr} : dropG G D D = none := if_pos rfl
section
variable {K : PySem.W.Frag} {CT : Cts} {m : Nat → Addr} {N : Nat} {G G' H H' : Hp} {h : PH} {D a : Addr} {acc : List V}
theorem sqT_drop {vs : List V} (hD : G D = some (.lst acc)) (q : SqT K G a vs) : SqT K (dropG G D) a vs := by
  rcases q with (q | ⟨o, q⟩) | q
  · exact .inl (.inl (by rw [dropG_ne (fun z => by rw [z, hD] at q; cases q)]; exact q))
  · exact .inl (.inr ⟨o, by rw [dropG_ne (fun z => by rw [z, hD] at q; cases q)]; exact q⟩)
  · exact .inr q
mutual
theorem Rel.drop (hD : G D = some (.lst acc)) : ∀ {x : PV} {v : V}, Rel K m N G x v → Rel K m N (dropG G D) x v
  | _, _, .non => .non
  | _, _, .bl b => .bl b
  | _, _, .int i => .int i
  | _, _, .str s => .str s
  | _, _, .ref hn => .ref hn
  | _, _, .tup hs r => .tup (sqT_drop hD hs) (RelL.drop1 hD r)
theorem RelL.drop1 (hD : G D = some (.lst acc)) : ∀ {x : List PV} {v : List V}, RelL K m N G x v → RelL K m N (dropG G D) x v
  | _, _, .nil => .nil
  | _, _, .cons a r => .cons (Rel.drop hD a) (RelL.drop1 hD r)
end
theorem RelF.drop (hD : G D = some (.lst acc)) : ∀ {fs : List (String × PV)} {gs : List (Str × V)}, RelF K m N G fs gs → RelF K m N (dropG G D) fs gs
  | [], [], _ => trivial
  | (f, x) :: r, (g, v) :: s, ⟨a, b, c⟩ => ⟨a, b.drop hD, RelF.drop hD c⟩
theorem RelD.drop (hD : G D = some (.lst acc)) : ∀ {fs : List (PV × PV)} {gs : List (Key × V)}, RelD K m N G fs gs → RelD K m N (dropG G D) fs gs
  | [], [], _ => trivial
  | (f, x) :: r, (g, v) :: s, ⟨a, b, c⟩ => ⟨a, b.drop hD, RelD.drop hD c⟩
theorem OR.drop {o : PO} (hD : G D = some (.lst acc)) (q : OR K CT m N G H a o) (k : nk o = true → H' a = H a) : OR K CT m N (dropG G D) H' a o := by
  cases o with
  | lst xs => obtain ⟨vs, q, r⟩ := q; exact ⟨vs, (k rfl).trans q, r.drop1 hD⟩
  | frz xs =>
    obtain ⟨vs, q, r⟩ := q
    refine ⟨vs, ?_, r.drop1 hD⟩
    rcases q with ⟨o, q⟩ | q
    · exact .inl ⟨o, by rw [dropG_ne (fun z => by rw [z, hD] at q; cases q)]; exact q⟩
    · exact .inr q
  | dic kvs => obtain ⟨vs, q, r⟩ := q; exact ⟨vs, (k rfl).trans q, r.drop hD⟩
  | ins c fs => obtain ⟨C, dx, gs, ct, q, r⟩ := q; exact ⟨C, dx, gs, ct, (k rfl).trans q, r.drop hD⟩
  | exn c fs =>
    obtain ⟨C, d, ct, q, r⟩ := q
    have nl : ∀ a, EXO (.ref C) d a ≠ .lst acc := fun a z => by
      have z' : HO.ext _ = HO.lst acc := z
      cases z'
    refine ⟨C, d, ct, by rw [dropG_ne (fun z => by rw [z, hD] at q; exact nl _ (Option.some.inj q).symm)]; exact q, ?_⟩
    rcases r with r | ⟨dd, gs, h1, h2, h3⟩
    · exact .inl r
    · exact .inr ⟨dd, gs, h1, by rw [dropG_ne (fun z => by rw [z, hD] at h2; cases h2)]; exact h2, h3.drop hD⟩
  | lam => trivial
theorem code_nl {c : Addr} {q : Str} : LamX.CodeO c q ≠ .lst acc := fun z => by
  have z' : HO.ext _ = HO.lst acc := z
  cases z'
theorem Xt.drop (x : Xt K CT m N G H) (hD : G D = some (.lst acc)) (hl : H D = some (.lst acc)) (hH : ∀ b, b ≠ D → H' b = H b) : Xt K CT m N (dropG G D) H' := by
  have cd : ∀ {c : Addr} {q : Str}, G c = some (LamX.CodeO c q) → dropG G D c = some (LamX.CodeO c q) := fun {c q} e => by
    rw [dropG_ne (fun z => by rw [z, hD] at e; exact code_nl (Option.some.inj e).symm)]
    exact e
  refine ⟨fun y hy => ?_, fun p hp => ?_, fun b ps e => ?_⟩
  · obtain ⟨h1, h2, h3, h4, h5⟩ := x.gh y hy
    exact ⟨h1, h2, cd h3, h4, fun i z e => let ⟨v, e1, e2⟩ := h5 i z e; ⟨v, e1, e2.drop hD⟩⟩
  · obtain ⟨h1, ps, h2, h3, h4⟩ := x.tb p hp
    have ne : p.1 ≠ D := fun z => by
      rw [z, hl] at h2
      cases h2
    exact ⟨by rw [dropG_ne ne]; exact h1, ps, by rw [hH _ ne]; exact h2, h3, fun pos cv e => let ⟨c, e1, e2⟩ := h4 pos cv e; ⟨c, e1, cd e2⟩⟩
  · by_cases hb : b = D
    · rw [hb, dropG_eq] at e
      cases e
    · rw [dropG_ne hb] at e
      exact x.gt b ps e
theorem HR.unghost (R : HR K CT m G H h) (hD : G D = some (.lst acc)) (hH : ∀ b, b ≠ D → H' b = H b) : HR K CT m (dropG G D) H' h ∧ ∀ i o, h[i]? = some o → nk o = true → m i ≠ D := by
  have nd : ∀ i o, h[i]? = some o → nk o = true → m i ≠ D := fun i o e k z => by
    have := R.dj i o e k
    rw [z, hD] at this
    cases this
  refine ⟨⟨fun i o e => (R.obj i o e).drop hD fun k => hH _ (nd i o e k), R.inj, fun b o e => ?_, fun i o e k => ?_, R.xt.drop hD (R.sub _ _ hD) hH⟩, nd⟩
  · by_cases hb : b = D
    · rw [hb, dropG_eq] at e
      cases e
    · rw [dropG_ne hb] at e
      rw [hH b hb]
      exact R.sub b o e
  · rw [dropG_ne (nd i o e k)]
    exact R.dj i o e k
theorem HR.ghost (R : HR K CT m G H h) (hG : G D = none) (hH : H D = some (.lst acc)) (nd : ∀ i o, h[i]? = some o → nk o = true → m i ≠ D) : HR K CT m (upd G D (.lst acc)) H h ∧ Sub G (upd G D (.lst acc)) := by
  have sg : Sub G (upd G D (.lst acc)) := fun b o e => by
    rw [upd_ne (fun z => by rw [z, hG] at e; cases e)]
    exact e
  refine ⟨⟨fun i o e => (R.obj i o e).keep Ex.refl (Nat.le_refl _) sg fun _ => rfl, R.inj, fun b o e => ?_, fun i o e k => ?_, R.xt.grow sg (fun q ps e => ⟨e, upd_ne fun z => by rw [z, hH] at e; cases e⟩) fun b ps e => ?_⟩, sg⟩
  · by_cases hb : b = D
    · rw [hb, upd_same] at e
      rw [hb, hH]
      exact e
    · rw [upd_ne hb] at e
      exact R.sub b o e
  · rw [upd_ne (nd i o e k)]
    exact R.dj i o e k
  · by_cases hb : b = D
    · rw [hb, upd_same] at e
      cases e
    · rw [upd_ne hb] at e
      exact R.xt.gt b ps e
theorem Sub.dropG (t : Sub G G') (hG : G D = none) : Sub G (Mi.dropG G' D) := fun b o e => by
  rw [dropG_ne (fun z => by rw [z, hG] at e; cases e)]
  exact t b o e
end
theorem wipe_idem (σ : L2.St) (vs : List Nat) : wipe (wipe σ vs) vs = wipe σ vs := by
  apply List.ext_getElem?
  intro j
  by_cases hj : j ∈ vs
  · by_cases hl : j < σ.length
    · rw [wipe_in hj (by rw [wipe_length]; exact hl), wipe_in hj hl]
    · rw [List.getElem?_eq_none (by rw [wipe_length, wipe_length]; omega), List.getElem?_eq_none (by rw [wipe_length]; omega)]
  · rw [wipe_out hj]
theorem wipeE_some : ∀ {vs : List Nat} {ρ : Mi.Env} {i : Nat} {x : PV}, (wipeE ρ vs)[i]? = some (some x) → ρ[i]? = some (some x) ∧ i ∉ vs
  | [], ρ, i, x, h => ⟨h, by simp⟩
  | v :: vs, ρ, i, x, h => by
    obtain ⟨h1, h2⟩ := wipeE_some (vs := vs) h
    by_cases hi : v = i
    · subst hi
      by_cases hl : v < ρ.length
      · rw [List.getElem?_set_self hl] at h1; cases h1
      · rw [List.getElem?_eq_none (by rw [List.length_set]; omega)] at h1; cases h1
    · rw [List.getElem?_set_ne hi] at h1
      exact ⟨h1, fun z => (List.mem_cons.mp z).elim (fun z => hi z.symm) h2⟩
theorem wipeE_length : ∀ (vs : List Nat) (ρ : Mi.Env), (wipeE ρ vs).length = ρ.length
  | [], _ => rfl
  | v :: vs, ρ => by rw [wipeE, wipeE_length vs, List.length_set]
theorem SR.wipe {K : PySem.W.Frag} {m : Nat → Addr} {N : Nat} {G : Hp} {ρ : Mi.Env} {σ : L2.St} (s : SR K m N G ρ σ) (vs : List Nat) : SR K m N G (wipeE ρ vs) (L2.wipe σ vs) :=
  ⟨by rw [wipeE_length, wipe_length]; exact s.1, fun i x e => by
    obtain ⟨h1, h2⟩ := wipeE_some e
    rw [wipe_out h2]
    exact s.2 i x h1⟩
/-! ### tests, the comprehension -/
abbrev W0 : WX := fun _ _ _ _ => False
def tTs (K : PySem.W.Frag) (CT : Cts) (cl : Cl) (W : WX) (cs : List E) : TT := fun σ H Q => ∃ m G h ρ, HR K CT m G H h ∧ SR K m h.length G ρ σ ∧ Post K CT relB W σ m G h.length Q (evc cl cs ρ h)
section
variable {X : Cx} {CT : Cts} {cl : Cl} {W : WX} {tg : Expr} {vv : List Nat} {e e1 e2 e3 : Expr} {es : List Expr} {c c1 c2 c3 : E} {cs : List E} {s1 : S} {ss ts : List S} {st : Stmt} {sts stt : List Stmt} {pos apos p : Pos}
theorem T_nil : PTs X [] (tTs X.K CT cl W []) := ⟨fun pins s σ H Q I ⟨m, G, h, ρ, R, sr, q⟩ => pts_nil.run pins s σ H Q I (by
  simp only [evc] at q
  exact q.now R rfl)⟩
theorem evc_one {ρ : Mi.Env} {h : PH} : evc cl [c] ρ h = tst cl c ρ h := by
  unfold tst
  simp only [evc]
  cases ev cl c ρ h with
  | ok x h1 =>
    simp only [bind_ok]
    unfold truR
    cases tru x h1 with
    | none => rfl
    | some b => cases b <;> rfl
  | _ => rfl
theorem T_one (h1 : PT X e (tT X.K CT cl W c)) : PTs X [e] (tTs X.K CT cl W [c]) := ⟨fun pins s σ H Q I ⟨m, G, h, ρ, R, sr, q⟩ => (pts_one h1).run pins s σ H Q I (by
  rw [evc_one] at q
  exact ⟨m, G, h, ρ, R, sr, q⟩)⟩
/-- one turn's step -/
abbrev lcS (cl : Cl) (t : T) (own : List Nat) (ts : List E) (ce : E) (ρ : Mi.Env) : PV → PH → R (Option PV) := fun x h2 => match bindT h2 t x (wipeE ρ own) with
  | some ρ1 => (evc cl ts ρ1 h2).bind fun b h3 => if b then (ev cl ce ρ1 h3).bind fun y h4 => .ok (some y) h4 else .ok none h3
  | none => .bad
theorem lc_bind {α : Type} {ik : IK} {ρ : Mi.Env} {h : PH} {f : Its → PH → R α} : ((evs cl cs ρ h).bind fun vs h1 => match itsOf ik vs h1 with
    | some i => f i h1
    | none => .bad) = (itsE cl ik cs ρ h).bind f := by
  unfold itsE
  cases evs cl cs ρ h with
  | ok vs h1 =>
    simp only [bind_ok]
    cases itsOf ik vs h1 <;> rfl
  | _ => rfl
/-! ### the list D grows, turn by turn -/
structure LcSt (K : PySem.W.Frag) (CT : Cts) (m : Nat → Addr) (G H : Hp) (h : PH) (D : Addr) (acc : List V) : Prop where
  R : HR K CT m G H h
  g : G D = none
  d : H D = some (.lst acc)
  n : ∀ i o, h[i]? = some o → nk o = true → m i ≠ D
def ContL (K : PySem.W.Frag) (CT : Cts) (D : Addr) (m : Nat → Addr) (G : Hp) (N : Nat) (acc : List V) (Nx : Hp → Prop) : R (List PV) → Prop
  | .ok zs h' => ∀ m' G' H' vs, Ex m m' N → Sub G G' → LcSt K CT m' G' H' h' D (acc ++ vs) → RelL K m' h'.length G' zs vs → Nx H'
  | _ => False
theorem ContL.later {K : PySem.W.Frag} {D : Addr} {m m1 : Nat → Addr} {G G1 : Hp} {N N1 : Nat} {acc : List V} {Nx : Hp → Prop} {r : R (List PV)} (p : ContL K CT D m G N acc Nx r) (e : Ex m m1 N) (l : N ≤ N1) (t : Sub G G1) : ContL K CT D m1 G1 N1 acc Nx r := by
  cases r with
  | ok zs h' => exact fun m' G' H' vs e1 e2 => p m' G' H' vs (e.trans e1 l) (t.trans e2)
  | exc x h' => exact p
  | bad => exact p
/-- the loop: each turn takes the list from acc to acc and the turn's part -/
theorem loop_gen {K : PySem.W.Frag} {J : It} {i : Its} {m1 : Nat → Addr} {N1 : Nat} {G1 H : Hp} {h : PH} {D : Addr} {acc : List V} {Nx : Hp → Prop} {step : Nat → PV → PH → R (List PV)} {Tn : V → Hp → (Hp → Prop) → Prop} (Bd : Nat → Nat → Prop) (b0 : Bd acc.length 0) (bs : ∀ n j px h ys h1, Bd n j → nox (step n px h) = .ok ys h1 → Bd (n + ys.length) (j + 1)) (w : IsW K CT J i m1 N1 G1)
    {m : Nat → Addr} {G : Hp} (hgro : ∀ n x h, Gro h (step n x h)) (x1 : Ex m1 m N1) (x2 : Sub G1 G) (x3 : N1 ≤ h.length) (L : LcSt K CT m G H h D acc) (cont : ContL K CT D m G h.length acc Nx (lcC i.g step acc.length i.xs h))
    (turn : ∀ px x m G H h acc Nx1 j, j < i.xs.length → Bd acc.length j → Ex m1 m N1 → Sub G1 G → N1 ≤ h.length → LcSt K CT m G H h D acc → Rel K m h.length G px x → ContL K CT D m G h.length acc Nx1 (nox (step acc.length px h)) → Tn x H Nx1) :
    ∃ W : Nat → Nat → Hp → Prop, (∃ k, W 0 k H) ∧ ∀ j k H, W j k H → (J.stop j H ∧ Nx H) ∨ (J.go j H ∧ ∃ Nx1 : Hp → Prop, (∀ H', Nx1 H' → ∃ k', k' < k ∧ W (j + 1) k' H') ∧ ∀ x H', J.yld j H x H' → Tn x H' Nx1) := by
  refine ⟨fun j k H => k = i.xs.length - j ∧ j ≤ i.xs.length ∧ ∃ (m : Nat → Addr) (G : Hp) (h : PH) (acc : List V), Bd acc.length j ∧ Ex m1 m N1 ∧ Sub G1 G ∧ N1 ≤ h.length ∧ LcSt K CT m G H h D acc ∧ ContL K CT D m G h.length acc Nx (lcC i.g step acc.length (i.xs.drop j) h),
    ⟨_, rfl, Nat.zero_le _, m, G, h, acc, b0, x1, x2, x3, L, cont⟩, ?_⟩
  rintro j k H ⟨rfl, hj, m, G, h, acc, bd, x1, x2, x3, L, q⟩
  by_cases hlt : j < i.xs.length
  · refine .inr ?_
    rw [List.drop_eq_getElem_cons hlt] at q
    unfold lcC at q
    split at q
    · rename_i okg
      refine ⟨w.go j m G H h x1 x2.t x3 L.R okg hlt, fun H => ∃ (m : Nat → Addr) (G : Hp) (h : PH) (acc : List V), Bd acc.length (j + 1) ∧ Ex m1 m N1 ∧ Sub G1 G ∧ N1 ≤ h.length ∧ LcSt K CT m G H h D acc ∧ ContL K CT D m G h.length acc Nx (lcC i.g step acc.length (i.xs.drop (j + 1)) h),
        fun H' z => ⟨_, by omega, rfl, hlt, z⟩, fun x H' y => ?_⟩
      obtain ⟨px, G', ep, sg, R', rx, kp⟩ := w.yl j m G H h x H' x1 x2.t x3 L.R okg hlt y
      rw [List.getElem?_eq_getElem hlt] at ep
      injection ep with ep
      rw [ep] at q
      obtain ⟨kp1, kp2⟩ := kp D (by rw [L.d]; simp)
      refine turn px x m G' H' h acc _ j hlt bd x1 (x2.trans sg) x3 ⟨R', kp2.trans L.g, kp1.trans L.d, L.n⟩ rx ?_
      have hg := nox_gro (hgro acc.length px h)
      have q := ContL.later q Ex.refl (Nat.le_refl _) sg
      cases es : nox (step acc.length px h) with
      | exc x h1 => rw [es] at q; exact q.elim
      | bad => rw [es] at q; exact q.elim
      | ok ys h1 =>
        rw [es] at q hg
        have l1 : h.length ≤ h1.length := hg
        intro m3 G3 H3 vs y1 y2 L3 rl
        have el : (acc ++ vs).length = acc.length + ys.length := by rw [List.length_append, rl.length]
        refine ⟨m3, G3, h1, acc ++ vs, by rw [el]; exact bs _ _ _ _ _ _ bd es, x1.trans y1 x3, (x2.trans sg).trans y2, Nat.le_trans x3 l1, L3, ?_⟩
        rw [el]
        simp only [bind_ok] at q
        cases ez : lcC i.g step (acc.length + ys.length) (i.xs.drop (j + 1)) h1 with
        | exc x h2 => rw [ez] at q; exact q.elim
        | bad => rw [ez] at q; exact q.elim
        | ok zs h2 =>
          have hg2 := lcC_gro (g := i.g) hgro (acc.length + ys.length) (i.xs.drop (j + 1)) h1
          rw [ez] at q hg2
          have l2 : h1.length ≤ h2.length := hg2
          intro m4 G4 H4 us z1 z2 L4 rz
          refine q m4 G4 H4 (vs ++ us) (y1.trans z1 l1) (y2.trans z2) ?_ ((rl.mono z1 l2 z2).append rz)
          rw [← List.append_assoc]
          exact L4
    · exact q.elim
  · have ej : j = i.xs.length := by omega
    subst ej
    refine .inl ?_
    rw [List.drop_length] at q
    unfold lcC at q
    split at q
    · rename_i okg
      exact ⟨w.st m G H h x1 x2.t x3 L.R okg, q m G H [] Ex.refl Sub.refl (by rw [List.append_nil]; exact L) .nil⟩
    · exact q.elim
/-- a turn of the plain kind -/
theorem turn_one {t : T} {tc : List E} {ce : E} {ow : List Nat} {m1 : Nat → Addr} {N1 : Nat} {G1 : Hp} {ρ : Mi.Env} {σ : L2.St} {D : Addr} {K : PySem.W.Frag} (hcl : GroC cl) (s : SR K m1 N1 G1 ρ σ) (px : PV) (x : V) (m : Nat → Addr) (G H : Hp) (h : PH) (acc : List V) (Nx1 : Hp → Prop)
    (x1 : Ex m1 m N1) (x2 : Sub G1 G) (x3 : N1 ≤ h.length) (L : LcSt K CT m G H h D acc) (rx : Rel K m h.length G px x) (hz : acc.length < sizeLine) (q : ContL K CT D m G h.length acc Nx1 (nox ((lcS cl t ow tc ce ρ px h).bind fun o h1 => .ok o.toList h1))) :
    tG K CT ow t x (wipe σ ow) H fun σ2 H2 => wipe σ2 ow = wipe σ ow ∧ tTs K CT cl W0 tc σ2 H2 fun b H3 => if b = true then tE K CT cl W0 ce σ2 H3 fun y H4 => ∃ acc, H4 D = some (.lst acc) ∧ acc.length < sizeLine ∧ Nx1 (upd H4 D (.lst (acc ++ [y]))) else Nx1 H3 := by
  obtain ⟨Rg, sg2⟩ := L.R.ghost L.g L.d L.n
  cases eb : bindT h t px (wipeE ρ ow) with
  | none =>
    simp only [lcS, eb, nox, bind_bad] at q
    exact q.elim
  | some ρ1 =>
    have ez : lcS cl t ow tc ce ρ px h = (evc cl tc ρ1 h).bind fun b h3 => if b then (ev cl ce ρ1 h3).bind fun y h4 => .ok (some y) h4 else .ok none h3 := by simp only [lcS, eb]
    rw [ez] at q
    have sw := (s.mono x1 x3 x2).wipe ow
    refine ⟨m, _, h, wipeE ρ ow, ρ1, px, Rg, sw.mono Ex.refl (Nat.le_refl _) sg2, rx.mono Ex.refl (Nat.le_refl _) sg2, eb, fun σ2 s2 w2 => ⟨w2.trans (wipe_idem σ ow), m, _, h, ρ1, Rg, s2, ?_⟩⟩
    have g1 := evc_gro hcl tc ρ1 h
    cases ec : evc cl tc ρ1 h with
    | exc x h3 =>
      simp only [ec, bind_exc, nox] at q
      exact q.elim
    | bad =>
      simp only [ec, bind_bad, nox] at q
      exact q.elim
    | ok b h3 =>
      rw [ec] at g1
      have l3 : h.length ≤ h3.length := g1
      simp only [ec, bind_ok] at q
      intro m3 G3 H3 b' y1 y2 R3 eb'
      have eb' : b = b' := eb'
      subst eb'
      have G3D : G3 D = some (.lst acc) := y2 D _ upd_same
      have sg3 : Sub G G3 := sg2.trans y2
      cases b with
      | false =>
        rw [if_neg (by simp)]
        simp only [Bool.false_eq_true, if_false, nox, bind_ok, Option.toList] at q
        obtain ⟨R4, nd4⟩ := R3.unghost G3D (H' := H3) fun _ _ => rfl
        exact q m3 (dropG G3 D) H3 [] y1 (sg3.dropG L.g) ⟨R4, dropG_eq, by rw [List.append_nil]; exact R3.sub D _ G3D, nd4⟩ .nil
      | true =>
        rw [if_pos rfl]
        simp only [if_true] at q
        refine ⟨m3, G3, h3, ρ1, R3, s2.mono y1 l3 y2, ?_⟩
        have g2 := ev_gro hcl ce ρ1 h3
        cases ee : ev cl ce ρ1 h3 with
        | exc x h4 =>
          simp only [ee, bind_exc, nox] at q
          exact q.elim
        | bad =>
          simp only [ee, bind_bad, nox] at q
          exact q.elim
        | ok yv h4 =>
          simp only [ee, bind_ok, nox, Option.toList] at q
          intro m4 G4 H4 v z1 z2 R4 rv
          have G4D : G4 D = some (.lst acc) := z2 D _ G3D
          obtain ⟨R5, nd5⟩ := R4.unghost G4D (H' := upd H4 D (.lst (acc ++ [v]))) fun _ hb => upd_ne hb
          exact ⟨acc, R4.sub D _ G4D, hz, q m4 (dropG G4 D) _ [v] (y1.trans z1 l3) ((sg3.trans z2).dropG L.g) ⟨R5, dropG_eq, upd_same, nd5⟩ (.cons (rv.drop G4D) .nil)⟩
theorem nox_bind {α β : Type} {r : R α} {f : α → PH → R β} (hf : ∀ a h, nox (f a h) = f a h) : nox (r.bind f) = (nox r).bind f := by
  cases r with
  | ok a h => exact hf a h
  | exc x h => rfl
  | bad => rfl
theorem lcL_C {g : Gd} {stp : PV → PH → R (Option PV)} : ∀ (n : Nat) (xs : List PV) (h : PH), lcC g (fun _ x h => (stp x h).bind fun o h1 => .ok o.toList h1) n xs h = lcL g stp xs h
  | _, [], h => rfl
  | n, x :: r, h => by
    unfold lcC lcL
    split
    · rw [nox_bind fun _ _ => rfl]
      cases nox (stp x h) with
      | ok o h1 =>
        simp only [bind_ok]
        rw [lcL_C]
        cases lcL g stp r h1 with
        | ok zs h2 =>
          simp only [bind_ok]
          cases o <;> rfl
        | _ => rfl
      | _ => rfl
    · rfl
/-- how many came -/
theorem lcL_len {g : Gd} {stp : PV → PH → R (Option PV)} : ∀ {xs : List PV} {h h' : PH} {ys : List PV}, lcL g stp xs h = .ok ys h' → ys.length ≤ xs.length
  | [], h, h', ys, e => by
    unfold lcL at e
    split at e
    · injection e with e
      subst e
      exact Nat.le_refl _
    · cases e
  | x :: r, h, h', ys, e => by
    unfold lcL at e
    split at e
    · cases e1 : nox (stp x h) with
      | ok o h1 =>
        rw [e1] at e
        simp only [bind_ok] at e
        cases e2 : lcL g stp r h1 with
        | ok zs h2 =>
          rw [e2] at e
          simp only [bind_ok] at e
          injection e with e
          subst e
          have := lcL_len e2
          cases o <;> simp <;> omega
        | exc _ _ => rw [e2] at e; cases e
        | bad => rw [e2] at e; cases e
      | exc _ _ => rw [e1] at e; cases e
      | bad => rw [e1] at e; cases e
    · cases e
theorem lcL_noexc {g : Gd} {stp : PV → PH → R (Option PV)} : ∀ {xs : List PV} {h h' : PH} {x : PX}, lcL g stp xs h = .exc x h' → False
  | [], h, h', x, e => by
    unfold lcL at e
    split at e <;> cases e
  | y :: r, h, h', x, e => by
    unfold lcL at e
    split at e
    · cases e1 : nox (stp y h) with
      | ok o h1 =>
        rw [e1] at e
        simp only [bind_ok] at e
        cases e2 : lcL g stp r h1 with
        | ok zs h2 => rw [e2] at e; cases e
        | exc _ _ => exact lcL_noexc e2
        | bad => rw [e2] at e; cases e
      | exc _ _ =>
        unfold nox at e1
        split at e1
        · cases e1
        · rename_i hne
          exact hne _ _ e1
      | bad => rw [e1] at e; cases e
    · cases e
theorem lcC_noexc {g : Gd} {stp : Nat → PV → PH → R (List PV)} : ∀ {n : Nat} {xs : List PV} {h h' : PH} {x : PX}, lcC g stp n xs h = .exc x h' → False
  | n, [], h, h', x, e => by
    unfold lcC at e
    split at e <;> cases e
  | n, y :: r, h, h', x, e => by
    unfold lcC at e
    split at e
    · cases e1 : nox (stp n y h) with
      | ok o h1 =>
        rw [e1] at e
        simp only [bind_ok] at e
        cases e2 : lcC g stp (n + o.length) r h1 with
        | ok zs h2 => rw [e2] at e; cases e
        | exc _ _ => exact lcC_noexc e2
        | bad => rw [e2] at e; cases e
      | exc _ _ =>
        unfold nox at e1
        split at e1
        · cases e1
        · rename_i hne
          exact hne _ _ e1
      | bad => rw [e1] at e; cases e
    · cases e
/-- where a comprehension begins and ends -/
theorem lc_begin {K : PySem.W.Frag} {m : Nat → Addr} {G H : Hp} {h : PH} {D : Addr} (R : HR K CT m G H h) (hD : H D = none) : LcSt K CT m G (upd H D (.lst [])) h D [] := by
  have gD : G D = none := by
    cases z : G D with
    | none => rfl
    | some u => rw [R.sub D u z] at hD; cases hD
  have nd : ∀ i o, h[i]? = some o → nk o = true → m i ≠ D := fun i o e k z => R.nn e k (by rw [z]; exact hD)
  refine ⟨⟨fun i o e => (R.obj i o e).keep Ex.refl (Nat.le_refl _) Sub.refl fun k => upd_ne (nd i o e k), R.inj, fun b o e => ?_, R.dj, R.xt.keep Ex.refl (Nat.le_refl _) fun p ps e => (upd_ne fun z => by rw [z, hD] at e; cases e).trans e⟩, gD, upd_same, nd⟩
  rw [upd_ne (fun z => by rw [z, gD] at e; cases e)]
  exact R.sub b o e
theorem lc_end {K : PySem.W.Frag} {m : Nat → Addr} {G H : Hp} {h : PH} {D : Addr} {acc : List V} {ys : List PV} {σ : L2.St} {Q : VK} (L : LcSt K CT m G H h D acc) (ry : RelL K m h.length G ys acc) (q : Post K CT (Rel K) W σ m G h.length Q (.ok (.ref h.length) (h ++ [PO.lst ys]))) : Q (.ref D) H := by
  have R0 : HR K CT m G (dropG H D) h := ⟨fun i o e => (L.R.obj i o e).keep Ex.refl (Nat.le_refl _) Sub.refl fun k => dropG_ne (L.n i o e k), L.R.inj, L.R.sub.dropG L.g, L.R.dj, L.R.xt.keep Ex.refl (Nat.le_refl _) fun p ps e => (dropG_ne fun z => by rw [z, L.d] at e; cases e).trans e⟩
  have R' := R0.new (p := D) (o := .lst ys) (H' := H) dropG_eq (fun b hb => by
    by_cases hz : b = D
    · exact absurd (by rw [hz]; exact dropG_eq) hb
    · exact (dropG_ne hz).symm) ⟨acc, L.d, ry.mono mx_ex (Nat.le_succ _) Sub.refl⟩ rfl
  have z : Rel K (mx m h.length D) (h ++ [PO.lst ys]).length G (.ref h.length) (.ref (mx m h.length D h.length)) := .ref (by rw [List.length_append]; simp)
  rw [mx_new] at z
  exact q _ G _ _ mx_ex Sub.refl R' z
theorem lcS_gro {t : T} {ow : List Nat} {tc : List E} {ce : E} {ρ : Mi.Env} (hcl : GroC cl) (x : PV) (h : PH) : Gro h (lcS cl t ow tc ce ρ x h) := by
  unfold lcS
  split
  · exact (evc_gro hcl tc _ h).bind fun b h3 _ => by
      split
      · exact (ev_gro hcl ce _ h3).bind fun y h4 _ => Gro.refl
      · exact Gro.refl
  · trivial
theorem lc_imp {ik : IK} {t : T} {tc : List E} {ce : E} {ow : List Nat} (hcl : GroC cl) {σ : L2.St} {H : Hp} {Q : VK} (hE : tE X.K CT cl W (.lc ce t ik cs tc ow) σ H Q) :
    tLc (tI X.K CT cl W ik cs) (tG X.K CT ow t) (tTs X.K CT cl W0 tc) (tE X.K CT cl W0 ce) ow σ H Q := by
  obtain ⟨m, G, h, ρ, R, s, q⟩ := hE
  simp only [ev] at q
  have q := (congrArg (Post X.K CT (Rel X.K) W σ m G h.length Q) (lc_bind (cl := cl) (cs := cs) (ik := ik) (ρ := ρ) (h := h) (f := fun i h1 => if i.xs.length < szl then
        (lcL i.g (lcS cl t ow tc ce ρ) i.xs h1).bind fun ys h5 => .ok (.ref h5.length) (h5 ++ [.lst ys])
      else .bad))).mp q
  refine ⟨m, G, h, ρ, R, s, (Post.bind (rel1 := relI X.K CT) (itsE_gro hcl) q).mono fun J H1 ⟨i, h1, m1, G1, e1, e2, R1, w, le, q1⟩ => ?_⟩
  intro D hD
  split at q1
  · rename_i hsz
    refine loop_gen (step := fun _ x h => (lcS cl t ow tc ce ρ x h).bind fun o h1 => .ok o.toList h1) (acc := []) (fun n j => n ≤ j) (Nat.le_refl _) (fun n j px h ys h1 hb e => ?_) w (fun _ x h => (lcS_gro hcl x h).bind fun _ _ _ => Gro.refl) Ex.refl Sub.refl (Nat.le_refl _) (lc_begin R1 hD) ?_
      fun px x m G H h acc Nx1 j hj hb x1 x2 x3 L rx q => turn_one hcl (s.mono e1 le e2) px x m G H h acc Nx1 x1 x2 x3 L rx (by rw [← szl_eq]; omega) q
    · cases el : lcS cl t ow tc ce ρ px h with
      | ok o h2 =>
        rw [el] at e
        simp only [bind_ok, nox] at e
        injection e with e
        subst e
        cases o <;> simp <;> omega
      | exc _ _ => rw [el] at e; cases e
      | bad => rw [el] at e; cases e
    · rw [lcL_C]
      cases ez : lcL i.g (lcS cl t ow tc ce ρ) i.xs h1 with
      | ok zs h2 =>
        have hg := lcL_gro (g := i.g) (fun x h => lcS_gro (t := t) (ow := ow) (tc := tc) (ce := ce) (ρ := ρ) hcl x h) i.xs h1
        rw [ez] at q1 hg
        exact fun m' G' H' vs y1 y2 L rl => lc_end L rl (Post.later q1 y1 hg y2)
      | exc _ _ => exact (lcL_noexc ez).elim
      | bad => rw [ez] at q1; exact q1.elim
  · exact q1.elim
theorem I_lc {elt iter : Expr} {ifs : List Expr} {scope : Scope} {own : List (Str × Nat)} {ik : IK} {t : T} {tc : List E} {ce : E} {ow : List Nat} (how : ow = own.map (·.2)) (hcl : GroC cl) (hc : X.calm = true) (hN : X.N.Nodup) (hi : PI X tg iter (tI X.K CT cl W ik cs)) (ok : BlkOk X.N X.env.scope scope own)
    (hg : ∀ (s : Shared) (H : Hp) (C : Addr) (l : List (Str × Addr)) (fp : List Addr), PG (X.blk s H scope (compEnvC scope l C X.env) fp) tg (tG X.K CT ow t))
    (ht : ∀ (s : Shared) (H : Hp) (C : Addr) (l : List (Str × Addr)) (fp : List Addr), PTs (X.blk s H scope (compEnvC scope l C X.env) fp) ifs (tTs X.K CT cl W0 tc))
    (he : ∀ (s : Shared) (H : Hp) (C : Addr) (l : List (Str × Addr)) (fp : List Addr), PE (X.blk s H scope (compEnvC scope l C X.env) fp) elt (tE X.K CT cl W0 ce)) (hs : ∀ x, foldedSetIterable iter X.env x = pure x) :
    PE X (.ListComp elt [⟨tg, iter, ifs, 0⟩] scope pos) (tE X.K CT cl W (.lc ce t ik cs tc ow)) := by
  refine PEimp (pe_lc hc hN hi ok hg ht he hs) fun σ H Q hE => ?_
  rw [← how]
  exact lc_imp hcl hE
theorem S_setLc {i : Nat} {y : Str} {py spos : Pos} {elt iter : Expr} {ifs : List Expr} {scope : Scope} {own : List (Str × Nat)} {ik : IK} {t : T} {tc : List E} {ce : E} {ow : List Nat} (how : ow = own.map (·.2)) (hcl : GroC cl) (hc : X.calm = true) (hN : X.N.Nodup) (hi : PI X tg iter (tI X.K CT cl W ik cs)) (ok : BlkOk X.N X.env.scope scope own)
    (hg : ∀ (s : Shared) (H : Hp) (C : Addr) (l : List (Str × Addr)) (fp : List Addr), PG (X.blk s H scope (compEnvC scope l C X.env) fp) tg (tG X.K CT ow t))
    (ht : ∀ (s : Shared) (H : Hp) (C : Addr) (l : List (Str × Addr)) (fp : List Addr), PTs (X.blk s H scope (compEnvC scope l C X.env) fp) ifs (tTs X.K CT cl W0 tc))
    (he : ∀ (s : Shared) (H : Hp) (C : Addr) (l : List (Str × Addr)) (fp : List Addr), PE (X.blk s H scope (compEnvC scope l C X.env) fp) elt (tE X.K CT cl W0 ce)) (hs : ∀ x, foldedSetIterable iter X.env x = pure x) (hy : X.N[i]? = some y) (hyl : X.env.scope.names.lookup y = some .local) (hsw : swapsWith (.ListComp elt [⟨tg, iter, ifs, 0⟩] scope pos) (some (.Name y py)) spos.line X.env = pure true) :
    PS X (.Assign [.Name y py] (.ListComp elt [⟨tg, iter, ifs, 0⟩] scope pos) spos) (tS X.K CT cl W (.asg (.nm i) (.lc ce t ik cs tc ow))) := by
  refine PSimp (ps_setLc hc hN hy hyl hsw hi ok hg ht he hs) fun D σ H ⟨m, G, h, ρ, R, s, q⟩ => ?_
  rw [← how]
  refine lc_imp hcl ?_
  simp only [ex, bindT] at q
  exact sE_first hcl R s q fun x v h1 m1 G1 H1 _ _ _ R1 s1 r1 q1 => q1.now R1 _ (s1.set r1 i)
end
end Mi

set_option Elab.async false
set_option linter.all false
set_option maxRecDepth 100000
/-! Mi20: raise; try .. except. -/
namespace Mi
open PySem PySem.Spec PyProof.Rows L2
section
variable {X : Cx} {CT : Cts} {cl : Cl} {W : WX} {tg : Expr} {vv : List Nat} {e e1 e2 e3 : Expr} {es : List Expr} {c c1 c2 c3 : E} {cs : List E} {s1 : S} {ss ts : List S} {st : Stmt} {sts stt : List Stmt} {pos apos p : Pos}
/-- raise C(e, ..), C without an __init__ of its own -/
theorem S_raise {n : String} {C : Addr} {bmB : List Value} {B newId initId : String} {x : Str} {rpos : Pos} (hcl : GroC cl) (hc : X.calm = true) (tk : Takes X W) (ct : CT.exc n C) (F : ExcBaseFacts B newId initId bmB) (q : PySem.W.excIn X.K C bmB newId = true) (gC : X.mg x = some (.ref C))
    (kC : PySem.W.keepIn X.K (.ref C) = true) (r : Raises X (.ref C)) (hg : Gl X x) (ha : PA X (e :: es) (tA X.K CT cl W cs)) (hdb : (x == ("__debug__" : Str)) = false)
    (he : starEach (e :: es) X.env = (false, eval e X.env) :: starEach es X.env) (hpl : (backTo pos (starEach es X.env)).any (·.1) = false) : PS X (.Raise (some (.Call (.Name x p) (e :: es) [] pos)) none rpos) (tS X.K CT cl W (.raise n cs)) :=
  PSimp (ps_raise hc tk (pmk_ownA F q gC kC r hg ha hdb he hpl)) fun D σ H ⟨m, G, h, ρ, R, s, z⟩ => by
    simp only [ex] at z
    refine sA_first hcl R s z fun xs vs h1 m1 G1 H1 _ _ _ R1 s1 rl q1 => ?_
    split at q1
    · rename_i hl
      exact ⟨by rw [← rl.length, ← szl_eq]; exact hl, q1.now R1 σ (.ref C) none s1 ⟨C, ct, rfl, .inl ⟨rfl, rfl⟩⟩⟩
    · exact q1.elim
theorem PostF.nox {K : PySem.W.Frag} {D : Ends} {m : Nat → Addr} {G : Hp} {N : Nat} {r : R Fl} (q : PostF K CT W D m G N (noxF r)) : PostF K CT W0 D m G N r := by
  cases r with
  | ok f h' =>
    cases f with
    | xc x ρ => exact q.elim
    | _ => exact q
  | exc x h' => exact q.elim
  | bad => exact q.elim
/-- try: .. except x: .. -/
theorem S_try {x : Str} {v : Value} {ks : List String} {b0 : Stmt} {np pos' : Pos} (hcl : GroC cl) (hst : X.stack = X.env :: X.outer) (hf : X.env.frame = some X.env.locals) (hc : Names X x v) (tk : Takes X W) (hex : ∀ c C, CT.exc c C → PySem.W.exmOne X.K (.ref C) v = some (decide (c ∈ ks)))
    (hb : ∀ (W : WX) (pn : List (Addr × Obj)) (xe : Value → Shared → Prop), Takes (X.tr pn xe) W → PassesOwn (model X.prog X.w) X.A X.env xe → PSs (X.tr pn xe) sts (tSs X.K CT cl W ss))
    (hsu : ∀ (a : Addr) (oe : Obj) (pn : List (Addr × Obj)), PSs (X.suite a ((a, oe) :: pn)) (b0 :: stt) (tSs X.K CT cl W0 ts)) :
    PS X (.Try sts [.ExceptHandler (some (.Name x np)) none (b0 :: stt) pos'] [] [] pos) (tS X.K CT cl W (.try_ ss ks ts)) :=
  PSimp (ps_try_only (tb := fun W => tSs X.K CT cl W ss) (ts := fun _ _ _ => tSs X.K CT cl W0 ts) (Wout := W) hst hf hc tk hb fun a oe cls d pn _ _ => hsu a oe pn) fun D σ H ⟨m, G, h, ρ, R, s, q⟩ => by
    simp only [ex] at q
    refine ⟨m, G, h, ρ, R, s, q.seq (exs_gro hcl ss ρ h) fun f h1 m1 G1 H1 e1 e2 R1 le q1 => ?_⟩
    cases f with
    | nx ρ1 => exact q1.now R1
    | rt u => exact q1.now R1
    | bk ρ1 => exact q1.now R1
    | ct ρ1 => exact q1.now R1
    | xc y ρ1 =>
      intro σ' cls d s' xr
      obtain ⟨C, ct, rfl, hf⟩ := id xr
      refine ⟨_, hex _ C ct, fun hy a _ => ?_, fun hn => ?_⟩
      · have hy := of_decide_eq_true hy
        simp only [if_pos hy] at q1
        exact ⟨m1, G1, h1, ρ1, R1, s', q1.nox⟩
      · have hn := of_decide_eq_false hn
        simp only [if_neg hn] at q1
        exact q1.now R1 σ' _ d s' xr
/-- an object that is never written, laid where G knows it -/
theorem HR.newF {K : PySem.W.Frag} {m : Nat → Addr} {G H : Hp} {h : PH} (R : HR K CT m G H h) {p : Addr} {o : PO} (q : OR K CT (mx m h.length p) (h.length + 1) G H p o) (ko : nk o = false) : HR K CT (mx m h.length p) G H (h ++ [o]) := by
  have no : ∀ {i : Nat} {u : PO}, (h ++ [o])[i]? = some u → nk u = true → i < h.length ∧ h[i]? = some u := fun {i u} e k => by
    rcases getElem?_app e with z | ⟨_, z⟩
    · exact z
    · rw [z, ko] at k
      cases k
  refine ⟨fun i u e => ?_, fun i j oi oj ei ej ne ki kj => ?_, R.sub, fun i u e k => ?_, R.xt.keep mx_ex (by simp) fun _ _ e => e⟩
  · rw [List.length_append]
    rcases getElem?_app e with ⟨hl, e'⟩ | ⟨rfl, rfl⟩
    · rw [mx_old hl]
      exact (R.obj i u e').keep mx_ex (Nat.le_succ _) Sub.refl fun _ => rfl
    · rw [mx_new]
      exact q
  · obtain ⟨hi, ei'⟩ := no ei ki
    obtain ⟨hj, ej'⟩ := no ej kj
    rw [mx_old hi, mx_old hj]
    exact R.inj i j oi oj ei' ej' ne ki kj
  · obtain ⟨hl, e'⟩ := no e k
    rw [mx_old hl]
    exact R.dj i u e' k
theorem PostF.un {K : PySem.W.Frag} {D : Ends} {m : Nat → Addr} {G : Hp} {N i : Nat} {r : R Fl} (q : PostF K CT W D m G N (unF i r)) :
    PostF K CT W0 { nx := fun σ H => D.nx (σ.set i none) H, rt := D.rt, bk := fun σ H => D.bk (σ.set i none) H, ct := fun σ H => D.ct (σ.set i none) H } m G N r := by
  cases r with
  | ok f h' =>
    cases f with
    | xc x ρ => exact q.elim
    | rt v => exact q
    | nx ρ => exact fun m1 G1 H1 e1 e2 e3 σ s => q m1 G1 H1 e1 e2 e3 _ (s.none i)
    | bk ρ => exact fun m1 G1 H1 e1 e2 e3 σ s => q m1 G1 H1 e1 e2 e3 _ (s.none i)
    | ct ρ => exact fun m1 G1 H1 e1 e2 e3 σ s => q m1 G1 H1 e1 e2 e3 _ (s.none i)
  | exc x h' => exact q.elim
  | bad => exact q.elim
/-- try: .. except x as n: .. -/
theorem S_tryA {x n : Str} {v : Value} {ks : List String} {i : Nat} {b0 : Stmt} {np pos' : Pos} (hcl : GroC cl) (hst : X.stack = X.env :: X.outer) (hf : X.env.frame = some X.env.locals) (hN : X.N.Nodup) (hi : X.N[i]? = some n) (hln : X.env.kindOf n = some .local) (hc : Names X x v) (tk : Takes X W) (hex : ∀ c C, CT.exc c C → PySem.W.exmOne X.K (.ref C) v = some (decide (c ∈ ks)))
    (hb : ∀ (W : WX) (pn : List (Addr × Obj)) (xe : Value → Shared → Prop), Takes (X.tr pn xe) W → PassesOwn (model X.prog X.w) X.A X.env xe → PSs (X.tr pn xe) sts (tSs X.K CT cl W ss))
    (hsu : ∀ (a : Addr) (pn : List (Addr × Obj)), PSs (X.suite a pn) (b0 :: stt) (tSs X.K CT cl W0 ts)) :
    PS X (.Try sts [.ExceptHandler (some (.Name x np)) (some n) (b0 :: stt) pos'] [] [] pos) (tS X.K CT cl W (.tryA ss ks i ts)) :=
  PSimp (ps_try_own (tb := fun W => tSs X.K CT cl W ss) (ts := tSs X.K CT cl W0 ts) (Wout := W) hst hf hN hi hln hc tk hb hsu) fun D σ H ⟨m, G, h, ρ, R, s, q⟩ => by
    simp only [ex] at q
    refine ⟨m, G, h, ρ, R, s, q.seq (exs_gro hcl ss ρ h) fun f h1 m1 G1 H1 e1 e2 R1 le q1 => ?_⟩
    cases f with
    | nx ρ1 => exact q1.now R1
    | rt u => exact q1.now R1
    | bk ρ1 => exact q1.now R1
    | ct ρ1 => exact q1.now R1
    | xc y ρ1 =>
      intro σ' cls d s' xr
      obtain ⟨C, ct, rfl, hfs⟩ := id xr
      refine ⟨_, hex _ C ct, fun hy a na => ?_, fun hn => ?_⟩
      · have hy := of_decide_eq_true hy
        simp only [if_pos hy] at q1
        obtain ⟨R2, sg⟩ := R1.newT (u := EXO (.ref C) d a) na
        have R3 : HR X.K CT (mx m1 h1.length a) (upd G1 a (EXO (.ref C) d a)) (upd H1 a (EXO (.ref C) d a)) (h1 ++ [.exn y.cls y.fs]) := R2.newF ⟨C, d, ct, upd_same, hfs.mono mx_ex (Nat.le_succ _) sg⟩ rfl
        have s3 : SR X.K (mx m1 h1.length a) (h1 ++ [PO.exn y.cls y.fs]).length (upd G1 a (EXO (.ref C) d a)) (ρ1.set i (some (.ref h1.length))) (σ'.set i (some (.ref a))) := by
          refine (s'.mono mx_ex (by simp) sg).set ?_ i
          have z : Rel X.K (mx m1 h1.length a) (h1 ++ [PO.exn y.cls y.fs]).length (upd G1 a (EXO (.ref C) d a)) (.ref h1.length) (.ref (mx m1 h1.length a h1.length)) := .ref (by simp)
          rw [mx_new] at z
          exact z
        exact ⟨_, _, _, _, R3, s3, PostF.un (q1.later mx_ex (by simp) sg)⟩
      · have hn := of_decide_eq_false hn
        simp only [if_neg hn] at q1
        exact q1.now R1 σ' _ d s' xr
end
end Mi

set_option Elab.async false
set_option linter.all false
set_option maxRecDepth 100000
/-! Mi21: a def by its compact body; the law's end. -/
namespace Mi
open PySem PySem.Spec PyProof.Rows L2
/-! ### names by computing -/
def visB (sc : Scope) (x : Str) : Bool := match sc.names.lookup x with
  | some .local => true
  | some .cell => true
  | some .free => true
  | _ => false
theorem vis_of {sc : Scope} {x : Str} (h : visB sc x = true) : Vis sc x := by
  unfold visB at h
  split at h
  · rename_i e; exact .inl e
  · rename_i e; exact .inr (.inl e)
  · rename_i e; exact .inr (.inr e)
  · cases h
def locB (sc : Scope) (x : Str) : Bool := match sc.names.lookup x with
  | some .local => true
  | some .cell => true
  | _ => false
theorem loc_of {sc : Scope} {x : Str} (h : locB sc x = true) : Loc sc x := by
  unfold locB at h
  split at h
  · rename_i e; exact .inl e
  · rename_i e; exact .inr e
  · cases h
def fnB (X : Cx) (x : Str) : Bool := X.fn x || (match X.env.scope.names.lookup x with
  | some .local => true
  | _ => false)
theorem fn_of {X : Cx} {x : Str} (h : fnB X x = true) : X.fn x = true ∨ X.env.scope.names.lookup x = some .local := by
  unfold fnB at h
  rw [Bool.or_eq_true] at h
  rcases h with h | h
  · exact .inl h
  · split at h
    · rename_i e; exact .inr e
    · cases h
/-! ### a def -/
/-- the promise of a def whose body is d -/
def spB (K : PySem.W.Frag) (CT : Cts) (cl : Cl) (d : Fn) : Sp := fun vs H Q E => ∃ m G h pvs, HR K CT m G H h ∧ RelL K m h.length G pvs vs ∧ Post K CT (Rel K) (fun cls d _ H' => E cls d H') [] m G h.length Q (d.run cl pvs h)
theorem spB_len {K : PySem.W.Frag} {CT : Cts} {cl : Cl} {d : Fn} {vs : List V} {H : Hp} {Q : VK} {E : XK} (h : spB K CT cl d vs H Q E) : vs.length = d.np := by
  obtain ⟨m, G, h, pvs, R, rl, q⟩ := h
  rw [← rl.length]
  unfold Fn.run at q
  split at q
  · assumption
  · exact q.elim
theorem sr_start {K : PySem.W.Frag} {m : Nat → Addr} {N : Nat} {G : Hp} : ∀ {xs : List PV} {vs : List V}, RelL K m N G xs vs → ∀ n, SR K m N G (xs.map some ++ List.replicate n none) (vs.map some ++ List.replicate n none)
  | _, _, .nil, n => ⟨by simp, fun i x e => by
    simp only [List.map_nil, List.nil_append] at e
    rw [List.getElem?_replicate] at e
    split at e <;> cases e⟩
  | _, _, .cons (x := x) (v := v) (xs := xs) (vs := vs) a r, n => by
    obtain ⟨h1, h2⟩ := sr_start r n
    refine ⟨by simpa using h1, fun i y e => ?_⟩
    cases i with
    | zero =>
      have e : some (some x) = some (some y) := e
      injection e with e
      injection e with e
      subst e
      exact ⟨v, rfl, a⟩
    | succ i => exact h2 i y (by simpa using e)
section
variable {P : Program} {w : World} {K : PySem.W.Frag} {mg : Str → Option Value} {base : Heap} {CT : Cts} {cl : Cl}
theorem fnG_run {x qual : Str} {st : Stmt} {f : Addr} {fd : FuncData} {NN ps : List Str} {k : Nat} {d : Fn} (F : Fun K x qual st f fd) (S : FnScope NN ps (defScope st)) (hn : d.np = ps.length) (hl : d.nl = NN.length - ps.length) (hcl : GroC cl)
    (hb : ∀ (cdv : Value) (A : Around) (out : List PySem.Env) (s : Shared) (H : Hp) (E : XK) (W : WX), Room k (A.deeper (envOfC qual (defScope st) s.heap.objs.size f cdv)) → A.guards = some [] → Takes (cxOf (L2.CX P w) P w K mg base NN qual (defScope st) f cdv A out s H E) W →
      PassesOwn (model P w) (A.deeper (envOfC qual (defScope st) s.heap.objs.size f cdv)) (envOfC qual (defScope st) s.heap.objs.size f cdv) (cxOf (L2.CX P w) P w K mg base NN qual (defScope st) f cdv A out s H E).xe →
      PSs (cxOf (L2.CX P w) P w K mg base NN qual (defScope st) f cdv A out s H E) (defBody st) (tSs K CT cl W d.body)) : FnG P w K mg base (k + 1) f fd ps (spB K CT cl d) := by
  refine fnG_of F S (fun vs H Q E h => (spB_len h).trans hn) fun cdv A out s H vs Q E hr hg hsp => ?_
  refine ⟨_, hb cdv A out s H E (fun cls d _ H' => E cls d H') hr hg (takes_of rfl rfl rfl rfl) (passes_of rfl), ?_⟩
  have hlen := spB_len hsp
  obtain ⟨m, G, h, pvs, R, rl, q⟩ := hsp
  have e1 : pvs.length = d.np := by rw [rl.length]; exact hlen
  unfold Fn.run at q
  rw [if_pos e1] at q
  have e2 : NN.length - vs.length = d.nl := by rw [hlen, hn, hl]
  refine ⟨m, G, h, pvs.map some ++ List.replicate d.nl none, R, ?_, ?_⟩
  · unfold L2.start
    rw [e2]
    exact sr_start rl _
  · have hgro := exs_gro hcl d.body (pvs.map some ++ List.replicate d.nl none) h
    cases e : exs cl d.body (pvs.map some ++ List.replicate d.nl none) h with
    | ok fl h1 =>
      rw [e] at q
      intro m' G' H' x1 x2 R'
      cases fl with
      | nx ρ => exact fun σ _ => q m' G' H' .non x1 x2 R' .non
      | rt v => exact fun u r => q m' G' H' u x1 x2 R' r
      | bk ρ => exact q.elim
      | ct ρ => exact q.elim
      | xc y ρ => exact fun σ cls dd _ xr => q m' G' H' cls dd x1 x2 R' xr
    | exc y h1 =>
      rw [e] at q
      exact q.elim
    | bad =>
      rw [e] at q
      exact q.elim
end
end Mi

set_option Elab.async false
set_option linter.all false
set_option maxRecDepth 100000
/-! Mi22: levels of calls; the law's end. -/
namespace Mi
open PySem PySem.Spec PyProof.Rows L2
section
variable {P : Program} {w : World} {K : PySem.W.Frag} {mg : Str → Option Value} {base : Heap} {CT : Cts} {t : FN → Option Fn} {n k : Nat} {f : FN} {a : Addr} {fd : FuncData} {ps : List Str} {d : Fn}
theorem cal_succ (h : t f = some d) (F : FnG P w K mg base k a fd ps (spB K CT (callN t n) d)) (b : Binds K fd ps []) : Cal P w K mg base CT (callN t (n + 1)) k f a := by
  refine ⟨fd, ps, ?_, b⟩
  have e : spI K CT (callN t (n + 1)) f = spB K CT (callN t n) d := by
    have z : ∀ pvs g, callN t (n + 1) f pvs g = d.run (callN t n) pvs g := fun pvs g => by simp only [callN, h]
    funext vs H Q E
    unfold spI spB
    simp only [z]
  rw [e]
  exact F
theorem cal_zero (b : Binds K fd ps []) : Cal P w K mg base CT (callN t 0) k f a := by
  refine ⟨fd, ps, FnG.none fun vs H Q E z => ?_, b⟩
  obtain ⟨m, G, h, pvs, _, _, q⟩ := z
  exact q
theorem Cal.more {cl : Cl} {j : Nat} (F : Cal P w K mg base CT cl j f a) (h : j ≤ k) : Cal P w K mg base CT cl k f a := by
  obtain ⟨fd, ps, F, b⟩ := F.ex
  exact ⟨fd, ps, F.more h, b⟩
end
/-! ### the script within the small interpreter's store -/
theorem script_rel {K : PySem.W.Frag} {CT : Cts} {H : Hp} {a : Addr} {ns : List Int} (t0 : CT.tbs = []) (g0 : CT.gh = []) (hO : Only H) (hS : SqL K H a (ns.map V.int)) : HR K CT (fun _ => a) H H [.frz (ns.map .int)] := by
  refine ⟨fun i o e => ?_, fun i j oi oj ei ej ne ki kj => ?_, fun b o e => e, fun i o e k => ?_, ⟨fun x hx => (List.not_mem_nil (g0 ▸ hx)).elim, fun p hp => (List.not_mem_nil (t0 ▸ hp)).elim, fun b ps e => ?_⟩⟩
  · cases i with
    | zero =>
      obtain rfl : PO.frz (ns.map .int) = o := by simpa using e
      refine ⟨ns.map V.int, ?_, rel_ints ns⟩
      rcases hS with (z | z) | z
      · rcases hO a with y | ⟨ob, xs, y⟩
        · rw [z] at y; cases y
        · rw [z] at y; cases y
      · exact .inl z
      · exact .inr z
    | succ i => simp at e
  · cases i with
    | zero =>
      obtain rfl : PO.frz (ns.map .int) = oi := by simpa using ei
      cases ki
    | succ i => simp at ei
  · cases i with
    | zero =>
      obtain rfl : PO.frz (ns.map .int) = o := by simpa using e
      cases k
    | succ i => simp at e
  · rcases hO b with y | ⟨ob, xs, y⟩
    · rw [y] at e; cases e
    · rw [y] at e; cases e
/-- the law's def, called by the judge: True comes out -/
theorem law_true {P : Program} {w : World} {K : PySem.W.Frag} {CT : Cts} {cl : Cl} {mg mb : Str → Option Value} {k : Nat} {fa a : Addr} {fd : FuncData} {x : Str} {z : Shared} {us : List Value} {ns : List Int}
    (inK : K.In z.heap) (glob : z.heap.Ns mainGlobals mg) (blt : z.heap.Ns builtinsNs mb) (same : ∀ y : Str, y ≠ "__name__" → mb y = bootBuiltins y) (free : z.heap.NoLimit) (noGen : z.gens = #[])
    (obj : z.heap.get? a = some { cls := .type "list", data := .seq us.toArray }) (intz : IntsAre us ns) (few : ns.length ≤ sizeLine) (room : Room k callerA) (t0 : CT.tbs = []) (g0 : CT.gh = [])
    (F : ∀ base : Heap, K.In base → base.Ns mainGlobals mg → FnG P w K mg base k fa fd [x] (spI K CT cl (.f "law"))) (bd : ∀ (s : Shared) (u : Value), BindsTo s fd ⟨[u], []⟩ [(x, u)])
    (ok : ∃ h', cl (.f "law") [.ref 0] [.frz (ns.map .int)] = .ok (.bl true) h') :
    codeAny (model P w) callerA (.call (.ref fa) ⟨[.ref a], []⟩) (fun r s' => r = .ok (.ret (.bool true)) ∧ OldK z.heap s'.heap ∧ s'.os = z.os ∧ AllBare s'.gens) z := by
  have vals := vals_ints intz
  have size : us.length = ns.length := intz.length
  have sp : ∀ H : Hp, Only H → SqL K H a (ns.map V.int) → spI K CT cl (.f "law") [.ref a] H (fun v _ => v = .bl true) fun _ _ _ => False := fun H hO hS => by
    obtain ⟨h', e⟩ := ok
    have q : Rel K (fun _ => a) [PO.frz (ns.map .int)].length H (.ref 0) (.ref a) := .ref (n := 0) (m := fun _ => a) (by simp)
    refine ⟨fun _ => a, H, _, [.ref 0], script_rel t0 g0 hO hS, .cons q .nil, ?_⟩
    rw [e]
    exact fun _ _ _ b _ _ _ r => r.bl_inv
  have main : ∀ H : Hp, Only H → SqL K H a (ns.map V.int) → HOk P w H z.heap → (∀ b u, H b = some u → b = a ∧ K.lookup a = none) →
      codeAny (model P w) callerA (.call (.ref fa) ⟨[.ref a], []⟩) (fun r s' => r = .ok (.ret (.bool true)) ∧ OldK z.heap s'.heap ∧ s'.os = z.os ∧ AllBare s'.gens) z := by
    intro H hO hS hok tr
    have isDict : ∀ {b : Addr} {o : Obj} {es : Array DictEntry} {ep : Nat}, z.heap.get? b = some o → o.data = .dict es ep → H b = none := by
      intro b o es ep e d
      cases hb : H b with
      | none => rfl
      | some u =>
        obtain ⟨rfl, _⟩ := tr b u hb
        rw [obj] at e
        injection e with e
        rw [← e] at d
        cases (show Data.seq us.toArray _ = Data.dict es ep from d)
    have names : ∀ {b : Addr} {m : Str → Option Value}, z.heap.Ns b m → (hidT z.heap H).Ns b m := by
      rintro b m ⟨o, es, ep, e, d, r⟩
      exact ⟨o, es, ep, hidT_get e (isDict e d), d, r⟩
    have inB : K.In (hidT z.heap H) := by
      intro b o e
      refine hidT_get (inK b o e) ?_
      cases hb : H b with
      | none => rfl
      | some u =>
        obtain ⟨rfl, q⟩ := tr b u hb
        rw [q] at e
        cases e
    obtain ⟨mc, l1, l2⟩ := id free
    have entry : Env0 P w K mg (hidT z.heap H) callerA [] z H := by
      refine ⟨rfl, ⟨inB, names glob, ⟨mb, names blt, same⟩, ⟨mc, names l1, l2⟩⟩, fun b o e => of_hidT e, Nat.le_of_eq (hidT_size _ _), trivial, fun b hb => ?_, hok, .of_eq noGen⟩
      cases hb
    refine codeAny_mono ((F _ inB (names glob)).go callerA [] z H ⟨[.ref a], []⟩ [.ref a] [.ref a] _ _ room rfl entry (bd z (.ref a)) (.cons rfl .nil) (sp H hO hS)) fun r s' q => ?_
    match r, q with
    | .error e, q =>
      obtain ⟨_, _, _, _, _, _, _, _, _, _, _, _, no⟩ := q
      exact no.elim
    | .ok .next, q => exact False.elim q
    | .ok .brk, q => exact False.elim q
    | .ok .cont, q => exact False.elim q
    | .ok (.ret u), ⟨v, H', sameOs, bare, un, hok', rv, hv⟩ =>
      have hv : v = V.bl true := hv
      rw [hv] at rv
      have hu : u = Value.bool true := rv
      rw [hu]
      refine ⟨rfl, OldK.of_keep fun b o e => ?_, sameOs, bare⟩
      rcases hO b with y | ⟨ob, xs, y⟩
      · exact un.keep b o e y (fun hm => by cases hm) (fun hm => by cases hm)
      · have y' := un.frzs b ob _ y
        have q1 := (hok b _ y).1
        have q2 := (hok' b _ y').1
        rw [e] at q1
        injection q1 with q1
        rw [q1]
        exact q2
  by_cases hk : K.lookup a = none
  · have at_ : ∀ b, (fun b => if b = a then some (HO.frz { cls := .type "list", data := .seq us.toArray } (.lst (ns.map V.int))) else none : Hp) b = if b = a then some (HO.frz { cls := .type "list", data := .seq us.toArray } (.lst (ns.map V.int))) else none := fun _ => rfl
    refine main (fun b => if b = a then some (HO.frz { cls := .type "list", data := .seq us.toArray } (.lst (ns.map V.int))) else none) (fun b => ?_) (.inl (.inr ⟨_, if_pos rfl⟩)) (fun b u q => ?_) fun b u q => ?_
    · rw [at_]
      split
      · exact .inr ⟨_, _, rfl⟩
      · exact .inl rfl
    · rw [at_] at q
      split at q
      · rename_i hb
        injection q with q
        subst q
        rw [hb]
        exact ⟨obj, by rw [List.length_map]; exact few, us, _, vals, obj⟩
      · cases q
    · split at q
      · rename_i hb
        exact ⟨hb, hk⟩
      · cases q
  · obtain ⟨o, ho⟩ := Option.ne_none_iff_exists'.mp hk
    have e := inK a o ho
    rw [obj] at e
    injection e with e
    rw [← e] at ho
    exact main (fun _ => none) (fun _ => .inl rfl) (.inr ⟨_, us.toArray, _, ho, rfl, rfl, rfl, by rw [List.size_toArray, size]; exact few, by simpa using vals⟩) (fun b u q => by cases q) fun b u q => by cases q
end Mi

set_option Elab.async false
set_option linter.all false
set_option maxRecDepth 100000
/-! Mi23: the facts of the text's top; short forms. -/
namespace Mi
open PySem PySem.Spec PyProof.Rows L2
abbrev SO (x : String) : Str := Str.ofString x
/-! ### facts: the kit's, tables, and any further ones by computing -/
abbrev Obs : Type := Bool × He.AlT
def obsM (xs : List (PySem.W.Frag → Bool)) (fa : List He.Fa) (fn : List He.DefD) (ts : List He.Tab) (K : PySem.W.Frag) : Obs := (xs.all fun f => f K, He.obsT fa fn ts K)
def SaysM (xs : List (PySem.W.Frag → Bool)) (fa : List He.Fa) (fn : List He.DefD) (ts : List He.Tab) (w : World) (K : PySem.W.Frag) : Prop := obsM xs fa fn ts K = (true, He.valT fn ts w)
def obsMG (n : Nat) (xs : List (PySem.W.Frag → Bool)) (fa : List He.Fa) (fn : List He.DefD) (ts : List He.Tab) (g : Addr → Option Obj) : Obs := obsM xs fa fn ts (He.frG g (sysModules :: PySem.cStatics :: He.asD g n))
def hookM (n : Nat) (xs : List (PySem.W.Frag → Bool)) (fa : List He.Fa) (fn : List He.DefD) (ts : List He.Tab) : PySem.W.Hook where
  α := Obs
  obs := fun s => obsMG n xs fa fn ts s.heap.get?
  val := fun w => (true, He.valT fn ts w)
  says := fun w h => ∃ K : PySem.W.Frag, K.In h ∧ SaysM xs fa fn ts w K
  of := fun _ _ e => ⟨_, He.frG_in, e⟩
  keeps := fun _ _ _ ⟨K, inK, c⟩ k => ⟨K, PySem.W.Frag.In.keeps inK k, c⟩
theorem obsMG_eq {n : Nat} {xs : List (PySem.W.Frag → Bool)} {fa : List He.Fa} {fn : List He.DefD} {ts : List He.Tab} {g : Addr → Option Obj} {s : Shared} (h : ∀ a, g a = s.heap.get? a) : obsMG n xs fa fn ts g = (hookM n xs fa fn ts).obs s := by
  have e : s.heap.get? = g := funext fun a => (h a).symm
  show _ = obsMG n xs fa fn ts s.heap.get?
  rw [e]
section
variable {xs : List (PySem.W.Frag → Bool)} {fa : List He.Fa} {fn : List He.DefD} {ts : List He.Tab} {w : World} {K : PySem.W.Frag}
theorem SaysM.kitT (c : SaysM xs fa fn ts w K) : He.SaysT fa fn ts w K := congrArg Prod.snd c
theorem SaysM.kit (c : SaysM xs fa fn ts w K) : He.SaysD fa fn K := c.kitT.d
theorem SaysM.tab (c : SaysM xs fa fn ts w K) (i : Nat) {t : He.Tab} (h : ts[i]? = some t) : ∃ es n, KDict K w (t.1 K) es n := c.kitT.tab i h
theorem SaysM.ex (c : SaysM xs fa fn ts w K) (i : Nat) {f : PySem.W.Frag → Bool} (h : xs[i]? = some f) : f K = true := List.all_eq_true.mp (congrArg Prod.fst c) f (List.mem_of_getElem? h)
theorem fun_of {x qual : Str} {st : Stmt} {f : Addr} {fd : FuncData} (F : FunD K x qual (defArgs st) (defBody st) (defScope st) [] [] f fd) : Fun K x qual st f fd := by
  obtain ⟨oc, od, dV, kV, doc, pm, an, cdv, ct, osl, e, lk, hcd, hD, _⟩ := F.ex
  rcases hD with ⟨_, rfl⟩ | ⟨z, _⟩
  · exact ⟨⟨oc, od, kV, doc, pm, an, cdv, ct, osl, e, e ▸ lk, hcd⟩, F.kp⟩
  · exact absurd rfl z
end
/-! ### short forms for the printed terms -/
section
variable {X : Cx} {CT : Cts} {cl : Cl} {W : WX} {k : Nat} {pos : Pos}
theorem I_gintE {x : Str} {i : Int} (hg : Gl X x) (hm : ∃ t, X.mg x = some (.int i t)) (hd : (x == ("__debug__" : Str)) = false) : PE X (.Name x pos) (tE X.K CT cl W (.k (.int i))) := by
  obtain ⟨t, e⟩ := hm
  exact I_gint hg e ⟨t, rfl⟩ hd
theorem I_gstrE {x z : Str} {s : List Char} (e : z = S2 s) (hg : Gl X x) (hm : ∃ t, X.mg x = some (.str z t)) (hd : (x == ("__debug__" : Str)) = false) : PE X (.Name x pos) (tE X.K CT cl W (.k (.str s))) := by
  obtain ⟨t, q⟩ := hm
  exact I_gstr e hg q ⟨t, rfl⟩ hd
theorem I_ty {x : Str} {T : String} (hg : Gl X x) (hm : X.mg x = none) (hv : bootBuiltins x = some (.type T)) (hn : x ≠ "__name__") (hd : (x == ("__debug__" : Str)) = false) : PE X (.Name x pos) (tC (.ty T)) := pe_bltn hg hm hv (show L2.RelV (.ty T) (.type T) from rfl) hn hd
theorem u65 {A : Around} (r : Room k A) : A.units + 65 < cLine := by have := r.un; omega
theorem u1 {A : Around} (r : Room k A) : A.units + 1 < cLine := by have := r.un; omega
theorem takes0 : Takes X W0 := fun u s' ⟨_, _, _, _, _, _, _, _, _, _, _, _, _, _, _, _, z⟩ => z.elim
end
/-- the walk of the law row, its written part told by facts -/
theorem walkE {l : PySem.W.OpenLaw} {k : Nat} {q : Program} {loose : List Str} {XP : (Str → Option Value) → Heap → Prop} {YP : World → Heap → Prop} {d : DefRec} {cl : Cl} {x : Str}
    (most : l.most = some 63) (noDef : d.params.defaults = []) (room : Room k callerA)
    (F : ∀ (w : World) (mg : Str → Option Value) (fa : Addr) (h : Heap), YP w h → h.Ns mainGlobals mg → mg d.name = some (.ref fa) →
      ∃ (K : PySem.W.Frag) (fd : FuncData) (CT : Cts), CT.tbs = [] ∧ CT.gh = [] ∧ K.In h ∧ (∀ (s : Shared) (u : Value), BindsTo s fd ⟨[u], []⟩ [(x, u)]) ∧ ∀ base : Heap, K.In base → base.Ns mainGlobals mg → FnG l.prog w K mg base k fa fd [x] (spI K CT cl (.f "law")))
    (ok : ∀ ns : List Int, ns.length ≤ 63 → ∃ h', cl (.f "law") [.ref 0] [.frz (ns.map .int)] = .ok (.bl true) h') :
    PySem.W.WalkO q loose XP YP l.row.toRowW d [] (fun f vs => PySem.call f vs) :=
  Att.attach_call most noDef fun w s0 z mg mb fa o pm cd doc a us ns G Y ho hd hcd hmg obj intz few noGen => by
    obtain ⟨K, fd, CT, t0, g0, inK, bd, hF⟩ := F w mg fa _ Y G.T.g hmg
    exact law_true inK G.T.g G.T.b G.T.builtins G.T.nolimit noGen obj intz (by rw [sizeLine_eq]; omega) room t0 g0 hF bd (ok ns few)
end Mi

set_option Elab.async false
set_option linter.all false
set_option maxRecDepth 100000
/-! Mi24: further rules. -/
namespace Mi
open PySem PySem.Spec PyProof.Rows L2
section
variable {X : Cx} {CT : Cts} {cl : Cl} {W : WX} {k : Nat} {a : Addr} {e e1 e2 e3 : Expr} {es : List Expr} {c c1 c2 c3 : E} {cs : List E} {pos apos p : Pos}
theorem I_tchain {o o' : COp} {op op' : CmpOp} (ho : op = coOp o) (ho' : op' = coOp o') (hu : X.A.units + 65 < cLine) (hcl : GroC cl) (h1 : PE X e1 (tE X.K CT cl W c1)) (h2 : PE X e2 (tE X.K CT cl W c2)) (h3 : PE X e3 (tE X.K CT cl W c3)) (hm : lastMarks [op, op'] [e2, e3] = false) :
    PT X (.Compare e1 [op, op'] [e2, e3] pos) (tT X.K CT cl W (.chain o o' c1 c2 c3)) := by
  subst ho ho'
  refine PTimp (pt_chain (op_C (CT := CT) (W := W) hu o) (op_C (CT := CT) (W := W) hu o') h1 h2 h3 hm) fun σ H Q ⟨m, G, h, ρ, R, s, q⟩ => ?_
  unfold tst at q
  have z : (ev cl (.chain o o' c1 c2 c3) ρ h).bind (fun x h1 => truR x h1) = (ev cl c1 ρ h).bind fun x h1 => (ev cl c2 ρ h1).bind fun y h2 => (cmpV o x y h2).bind fun r h3 => match r with
    | .bl true => (ev cl c3 ρ h3).bind fun z h4 => (cmpV o' y z h4).bind fun w h5 => truR w h5
    | .bl false => .ok false h3
    | _ => .bad := by
    simp only [ev]
    cases ev cl c1 ρ h with
    | ok x h1 =>
      simp only [bind_ok]
      cases ev cl c2 ρ h1 with
      | ok y h2 =>
        simp only [bind_ok]
        rcases cmpV_bl (o := o) (x := x) (y := y) (h := h2) with ⟨b, eb⟩ | eb
        · rw [eb]
          simp only [bind_ok]
          cases b with
          | true =>
            simp only
            cases ev cl c3 ρ h2 with
            | ok z h4 =>
              simp only [bind_ok]
            | _ => rfl
          | false => rfl
        · rw [eb]
          rfl
      | _ => rfl
    | _ => rfl
  rw [z] at q
  refine tE_first hcl R s q fun x v h1 m1 G1 H1 _ _ _ R1 s1 r1 q1 => tE_first hcl R1 s1 q1 fun y u h2 m2 G2 H2 x2 g2 l2 R2 s2 r2 q2 => ⟨m2, G2, h2, x, y, σ, R2, r1.mono x2 l2 g2, r2, ?_⟩
  rcases cmpV_bl (o := o) (x := x) (y := y) (h := h2) with ⟨b, eb⟩ | eb
  · rw [eb] at q2 ⊢
    intro m' G' H' b' x3 g3 R3 r3
    obtain rfl := r3.bl_inv
    simp only [bind_ok] at q2
    refine ⟨b, rfl, ?_⟩
    cases b with
    | true =>
      rw [if_pos rfl]
      have q3 := Post.later q2 x3 (Nat.le_refl _) g3
      refine tE_first hcl R3 (s2.mono x3 (Nat.le_refl _) g3) q3 fun z w h4 m4 G4 H4 x4 g4 l4 R4 s4 r4 q4 => ⟨m4, G4, h4, y, z, σ, R4, (r2.mono x3 (Nat.le_refl _) g3).mono x4 l4 g4, r4, ?_⟩
      rcases cmpV_bl (o := o') (x := y) (y := z) (h := h4) with ⟨d, ed⟩ | ed
      · rw [ed] at q4 ⊢
        intro m5 G5 H5 b5 x5 g5 R5 r5
        obtain rfl := r5.bl_inv
        exact ⟨d, rfl, q4 m5 G5 H5 d x5 g5 R5 rfl⟩
      · rw [ed] at q4
        exact q4.elim
    | false =>
      rw [if_neg (by simp)]
      exact ⟨false, rfl, q2 m' G' H' _ x3 g3 R3 rfl⟩
  · rw [eb] at q2
    exact q2.elim
/-! ### two for parts -/
/-- one turn of the outer part -/
abbrev lcS2 (cl : Cl) (t : T) (own : List Nat) (ts : List E) (t2 : T) (ik2 : IK) (its2 : List E) (own2 : List Nat) (ts2 : List E) (ce : E) (ρ : Mi.Env) : Nat → PV → PH → R (List PV) := fun n x h2 => match bindT h2 t x (wipeE ρ own) with
  | some ρ1 => (evc cl ts ρ1 h2).bind fun b h3 => if b then (itsE cl ik2 its2 ρ1 h3).bind fun i2 h4 => if n + i2.xs.length < szl then lcL i2.g (lcS cl t2 own2 ts2 ce ρ1) i2.xs h4 else .bad
    else .ok [] h3
  | none => .bad
theorem lcS2_gro {t t2 : T} {ow ow2 : List Nat} {tc tc2 its2 : List E} {ik2 : IK} {ce : E} {ρ : Mi.Env} (hcl : GroC cl) (n : Nat) (x : PV) (h : PH) : Gro h (lcS2 cl t ow tc t2 ik2 its2 ow2 tc2 ce ρ n x h) := by
  unfold lcS2
  split
  · exact (evc_gro hcl tc _ h).bind fun b h3 _ => by
      split
      · exact (itsE_gro hcl).bind fun i2 h4 _ => by
          split
          · exact lcL_gro (fun x h => lcS_gro hcl x h) _ _
          · trivial
      · exact Gro.refl
  · trivial
theorem turn_two {t t2 : T} {ow ow2 : List Nat} {tc tc2 its2 : List E} {ik2 : IK} {ce : E} {m1 : Nat → Addr} {N1 : Nat} {G1 : Hp} {ρ : Mi.Env} {σ : L2.St} {D : Addr} {K : PySem.W.Frag} (hcl : GroC cl) (s : SR K m1 N1 G1 ρ σ) (px : PV) (x : V) (m : Nat → Addr) (G H : Hp) (h : PH) (acc : List V) (Nx1 : Hp → Prop)
    (x1 : Ex m1 m N1) (x2 : Sub G1 G) (x3 : N1 ≤ h.length) (L : LcSt K CT m G H h D acc) (rx : Rel K m h.length G px x) (q : ContL K CT D m G h.length acc Nx1 (nox (lcS2 cl t ow tc t2 ik2 its2 ow2 tc2 ce ρ acc.length px h))) :
    tG K CT ow t x (wipe σ ow) H fun σ2 H2 => wipe σ2 ow = wipe σ ow ∧ tTs K CT cl W0 tc σ2 H2 fun b H3 => if b = true then tI K CT cl W0 ik2 its2 σ2 H3 fun J1 H4 => ∃ W1 : Nat → Nat → Hp → Prop, (∃ k, W1 0 k H4) ∧ ∀ j k H, W1 j k H →
      (J1.stop j H ∧ Nx1 H) ∨ (J1.go j H ∧ ∃ Nx2 : Hp → Prop, (∀ H', Nx2 H' → ∃ k', k' < k ∧ W1 (j + 1) k' H') ∧ ∀ x H', J1.yld j H x H' → tG K CT ow2 t2 x (wipe σ2 ow2) H' fun σ3 H5 => wipe σ3 ow2 = wipe σ2 ow2 ∧ tTs K CT cl W0 tc2 σ3 H5 fun b H6 =>
        if b = true then tE K CT cl W0 ce σ3 H6 fun y H7 => ∃ acc, H7 D = some (.lst acc) ∧ acc.length < sizeLine ∧ Nx2 (upd H7 D (.lst (acc ++ [y]))) else Nx2 H6)
      else Nx1 H3 := by
  obtain ⟨Rg, sg2⟩ := L.R.ghost L.g L.d L.n
  cases eb : bindT h t px (wipeE ρ ow) with
  | none =>
    simp only [lcS2, eb, nox] at q
    exact q.elim
  | some ρ1 =>
    have ez : lcS2 cl t ow tc t2 ik2 its2 ow2 tc2 ce ρ acc.length px h = (evc cl tc ρ1 h).bind fun b h3 => if b then (itsE cl ik2 its2 ρ1 h3).bind fun i2 h4 => if acc.length + i2.xs.length < szl then lcL i2.g (lcS cl t2 ow2 tc2 ce ρ1) i2.xs h4 else .bad
      else .ok [] h3 := by simp only [lcS2, eb]
    rw [ez] at q
    have sw := (s.mono x1 x3 x2).wipe ow
    refine ⟨m, _, h, wipeE ρ ow, ρ1, px, Rg, sw.mono Ex.refl (Nat.le_refl _) sg2, rx.mono Ex.refl (Nat.le_refl _) sg2, eb, fun σ2 s2 w2 => ⟨w2.trans (wipe_idem σ ow), m, _, h, ρ1, Rg, s2, ?_⟩⟩
    have g1 := evc_gro hcl tc ρ1 h
    cases ec : evc cl tc ρ1 h with
    | exc x h3 =>
      simp only [ec, bind_exc, nox] at q
      exact q.elim
    | bad =>
      simp only [ec, bind_bad, nox] at q
      exact q.elim
    | ok b h3 =>
      rw [ec] at g1
      have l3 : h.length ≤ h3.length := g1
      simp only [ec, bind_ok] at q
      intro m3 G3 H3 b' y1 y2 R3 eb'
      have eb' : b = b' := eb'
      subst eb'
      have G3D : G3 D = some (.lst acc) := y2 D _ upd_same
      have sg3 : Sub G G3 := sg2.trans y2
      cases b with
      | false =>
        rw [if_neg (by simp)]
        simp only [Bool.false_eq_true, if_false, nox] at q
        obtain ⟨R4, nd4⟩ := R3.unghost G3D (H' := H3) fun _ _ => rfl
        exact q m3 (dropG G3 D) H3 [] y1 (sg3.dropG L.g) ⟨R4, dropG_eq, by rw [List.append_nil]; exact R3.sub D _ G3D, nd4⟩ .nil
      | true =>
        rw [if_pos rfl]
        simp only [if_true] at q
        have s3 := s2.mono y1 l3 y2
        refine ⟨m3, G3, h3, ρ1, R3, s3, ?_⟩
        have g2 := itsE_gro (cl := cl) hcl (ik := ik2) (cs := its2) (ρ := ρ1) (h := h3)
        cases ee : itsE cl ik2 its2 ρ1 h3 with
        | exc x h4 =>
          simp only [ee, bind_exc, nox] at q
          exact q.elim
        | bad =>
          simp only [ee, bind_bad, nox] at q
          exact q.elim
        | ok i2 h4 =>
          rw [ee] at g2
          have l4 : h3.length ≤ h4.length := g2
          simp only [ee, bind_ok] at q
          split at q
          · rename_i hsz
            intro m4 G4 H4 J z1 z2 R4 w
            have G4D : G4 D = some (.lst acc) := z2 D _ G3D
            obtain ⟨R5, nd5⟩ := R4.unghost G4D (H' := H4) fun _ _ => rfl
            have s4 := s3.mono z1 l4 z2
            have s5 : SR K m4 h4.length (dropG G4 D) ρ1 σ2 := ⟨s4.1, fun i x e => by
              obtain ⟨v, e1, r⟩ := s4.2 i x e
              exact ⟨v, e1, r.drop G4D⟩⟩
            have L5 : LcSt K CT m4 (dropG G4 D) H4 h4 D acc := ⟨R5, dropG_eq, R4.sub D _ G4D, nd5⟩
            have w5 := w.rebase (G0' := dropG G4 D) fun a xs z => sqT_drop G4D z
            have sgt : Sub G (dropG G4 D) := (sg3.trans z2).dropG L.g
            refine loop_gen (step := fun _ x h => (lcS cl t2 ow2 tc2 ce ρ1 x h).bind fun o h1 => .ok o.toList h1) (acc := acc) (Nx := Nx1) (fun n j => n ≤ acc.length + j) (Nat.le_refl _) (fun n j px h ys h1 hb e => ?_) w5 (fun _ x h => (lcS_gro hcl x h).bind fun _ _ _ => Gro.refl) Ex.refl Sub.refl (Nat.le_refl _) L5 ?_
              fun px x m G H h acc' Nx2 j hj hb x1 x2 x3 L rx q => turn_one hcl s5 px x m G H h acc' Nx2 x1 x2 x3 L rx (by rw [← szl_eq]; omega) q
            · cases el : lcS cl t2 ow2 tc2 ce ρ1 px h with
              | ok o h2 =>
                rw [el] at e
                simp only [bind_ok, nox] at e
                injection e with e
                subst e
                cases o <;> simp <;> omega
              | exc _ _ => rw [el] at e; cases e
              | bad => rw [el] at e; cases e
            · rw [lcL_C]
              have q' := ContL.later q (y1.trans z1 l3) (Nat.le_trans l3 l4) sgt
              cases ez : lcL i2.g (lcS cl t2 ow2 tc2 ce ρ1) i2.xs h4 with
              | ok zs h5 =>
                rw [ez] at q'
                exact q'
              | exc _ _ => exact (lcL_noexc ez).elim
              | bad => rw [ez] at q'; exact q'.elim
          · exact q.elim
theorem lc2_imp {ik : IK} {t t2 : T} {tc tc2 its2 : List E} {ik2 : IK} {ce : E} {ow ow2 : List Nat} (hcl : GroC cl) {σ : L2.St} {H : Hp} {Q : VK} (hE : tE X.K CT cl W (.lc2 ce t ik cs tc ow t2 ik2 its2 tc2 ow2) σ H Q) :
    tLc2 (tI X.K CT cl W ik cs) (tG X.K CT ow t) (tTs X.K CT cl W0 tc) (tI X.K CT cl W0 ik2 its2) (tG X.K CT ow2 t2) (tTs X.K CT cl W0 tc2) (tE X.K CT cl W0 ce) ow ow2 σ H Q := by
  obtain ⟨m, G, h, ρ, R, s, q⟩ := hE
  simp only [ev] at q
  have ez : ∀ (ρ1 : Mi.Env) (h3 : PH) (f : Its → PH → Mi.R (List PV)), ((evs cl its2 ρ1 h3).bind fun us h4 => match itsOf ik2 us h4 with
      | some i2 => f i2 h4
      | none => .bad) = (itsE cl ik2 its2 ρ1 h3).bind f := fun ρ1 h3 f => lc_bind
  have q := (congrArg (Post X.K CT (Rel X.K) W σ m G h.length Q) (lc_bind (cl := cl) (cs := cs) (ik := ik) (ρ := ρ) (h := h) (f := fun i h1 =>
        (lcC i.g (fun n x h2 => match bindT h2 t x (wipeE ρ ow) with
          | some ρ1 => (evc cl tc ρ1 h2).bind fun b h3 => if b then (evs cl its2 ρ1 h3).bind fun us h4 => match itsOf ik2 us h4 with
              | some i2 => if n + i2.xs.length < szl then lcL i2.g (lcS cl t2 ow2 tc2 ce ρ1) i2.xs h4 else .bad
              | none => .bad
            else .ok [] h3
          | none => .bad) 0 i.xs h1).bind fun ys h5 => .ok (.ref h5.length) (h5 ++ [.lst ys])))).mp q
  have ef : (fun n x h2 => match bindT h2 t x (wipeE ρ ow) with
          | some ρ1 => (evc cl tc ρ1 h2).bind fun b h3 => if b then (evs cl its2 ρ1 h3).bind fun us h4 => match itsOf ik2 us h4 with
              | some i2 => if n + i2.xs.length < szl then lcL i2.g (lcS cl t2 ow2 tc2 ce ρ1) i2.xs h4 else .bad
              | none => .bad
            else .ok [] h3
          | none => .bad : Nat → PV → PH → Mi.R (List PV)) = lcS2 cl t ow tc t2 ik2 its2 ow2 tc2 ce ρ := by
    funext n x h2
    unfold lcS2
    split
    · rename_i ρ1 e
      congr 1
      funext b h3
      split
      · exact ez ρ1 h3 fun i2 h4 => if n + i2.xs.length < szl then lcL i2.g (lcS cl t2 ow2 tc2 ce ρ1) i2.xs h4 else .bad
      · rfl
    · rfl
  rw [ef] at q
  refine ⟨m, G, h, ρ, R, s, (Post.bind (rel1 := relI X.K CT) (itsE_gro hcl) q).mono fun J H1 ⟨i, h1, m1, G1, e1, e2, R1, w, le, q1⟩ => ?_⟩
  intro D hD
  refine loop_gen (step := lcS2 cl t ow tc t2 ik2 its2 ow2 tc2 ce ρ) (acc := []) (fun _ _ => True) trivial (fun _ _ _ _ _ _ _ _ => trivial) w (fun n x h => lcS2_gro hcl n x h) Ex.refl Sub.refl (Nat.le_refl _) (lc_begin R1 hD) ?_
    fun px x m G H h acc Nx1 j hj _ x1 x2 x3 L rx q => turn_two hcl (s.mono e1 le e2) px x m G H h acc Nx1 x1 x2 x3 L rx q
  cases ez : lcC i.g (lcS2 cl t ow tc t2 ik2 its2 ow2 tc2 ce ρ) 0 i.xs h1 with
  | ok zs h2 =>
    have hg := lcC_gro (g := i.g) (fun n x h => lcS2_gro (t := t) (ow := ow) (tc := tc) (t2 := t2) (ik2 := ik2) (its2 := its2) (ow2 := ow2) (tc2 := tc2) (ce := ce) (ρ := ρ) hcl n x h) 0 i.xs h1
    rw [ez] at q1 hg
    exact fun m' G' H' vs y1 y2 L rl => lc_end L rl (Post.later q1 y1 hg y2)
  | exc _ _ => exact (lcC_noexc ez).elim
  | bad => rw [ez] at q1; exact q1.elim
theorem I_lc2 {elt iter tg1 iter1 : Expr} {ifs ifs1 : List Expr} {tg : Expr} {scope : Scope} {own : List (Str × Nat)} {ik ik2 : IK} {t t2 : T} {tc tc2 its2 : List E} {ce : E} {ow ow2 : List Nat} (how : ow = own.map (·.2)) (hv : ∀ i ∈ ow2, i ∈ own.map (·.2)) (hcl : GroC cl) (hc : X.calm = true) (hN : X.N.Nodup) (hi : PI X tg iter (tI X.K CT cl W ik cs)) (ok : BlkOk X.N X.env.scope scope own)
    (hg : ∀ (s : Shared) (H : Hp) (C : Addr) (l : List (Str × Addr)) (fp : List Addr), PG (X.blk s H scope (compEnvC scope l C X.env) fp) tg (tG X.K CT ow t))
    (ht : ∀ (s : Shared) (H : Hp) (C : Addr) (l : List (Str × Addr)) (fp : List Addr), PTs (X.blk s H scope (compEnvC scope l C X.env) fp) ifs (tTs X.K CT cl W0 tc))
    (hi1 : ∀ (s : Shared) (H : Hp) (C : Addr) (l : List (Str × Addr)) (fp : List Addr), PI (X.blk s H scope (compEnvC scope l C X.env) fp) tg1 iter1 (tI X.K CT cl W0 ik2 its2))
    (hg1 : ∀ (s : Shared) (H : Hp) (C : Addr) (l : List (Str × Addr)) (fp : List Addr), PG (X.blk s H scope (compEnvC scope l C X.env) fp) tg1 (tG X.K CT ow2 t2))
    (ht1 : ∀ (s : Shared) (H : Hp) (C : Addr) (l : List (Str × Addr)) (fp : List Addr), PTs (X.blk s H scope (compEnvC scope l C X.env) fp) ifs1 (tTs X.K CT cl W0 tc2))
    (he : ∀ (s : Shared) (H : Hp) (C : Addr) (l : List (Str × Addr)) (fp : List Addr), PE (X.blk s H scope (compEnvC scope l C X.env) fp) elt (tE X.K CT cl W0 ce)) (hs : ∀ x, foldedSetIterable iter X.env x = pure x) (hs1 : ∀ env x, foldedSetIterable iter1 env x = pure x) :
    PE X (.ListComp elt [⟨tg, iter, ifs, 0⟩, ⟨tg1, iter1, ifs1, 0⟩] scope pos) (tE X.K CT cl W (.lc2 ce t ik cs tc ow t2 ik2 its2 tc2 ow2)) := by
  refine PEimp (pe_lc2 hc hN hi ok hv hg ht hi1 hg1 ht1 he hs hs1) fun σ H Q hE => ?_
  rw [← how]
  exact lc2_imp hcl hE
theorem S_setLc2 {i : Nat} {y : Str} {py spos : Pos} {elt iter tg1 iter1 : Expr} {ifs ifs1 : List Expr} {tg : Expr} {scope : Scope} {own : List (Str × Nat)} {ik ik2 : IK} {t t2 : T} {tc tc2 its2 : List E} {ce : E} {ow ow2 : List Nat} (how : ow = own.map (·.2)) (hv : ∀ i ∈ ow2, i ∈ own.map (·.2)) (hcl : GroC cl) (hc : X.calm = true) (hN : X.N.Nodup) (hi : PI X tg iter (tI X.K CT cl W ik cs)) (ok : BlkOk X.N X.env.scope scope own)
    (hg : ∀ (s : Shared) (H : Hp) (C : Addr) (l : List (Str × Addr)) (fp : List Addr), PG (X.blk s H scope (compEnvC scope l C X.env) fp) tg (tG X.K CT ow t))
    (ht : ∀ (s : Shared) (H : Hp) (C : Addr) (l : List (Str × Addr)) (fp : List Addr), PTs (X.blk s H scope (compEnvC scope l C X.env) fp) ifs (tTs X.K CT cl W0 tc))
    (hi1 : ∀ (s : Shared) (H : Hp) (C : Addr) (l : List (Str × Addr)) (fp : List Addr), PI (X.blk s H scope (compEnvC scope l C X.env) fp) tg1 iter1 (tI X.K CT cl W0 ik2 its2))
    (hg1 : ∀ (s : Shared) (H : Hp) (C : Addr) (l : List (Str × Addr)) (fp : List Addr), PG (X.blk s H scope (compEnvC scope l C X.env) fp) tg1 (tG X.K CT ow2 t2))
    (ht1 : ∀ (s : Shared) (H : Hp) (C : Addr) (l : List (Str × Addr)) (fp : List Addr), PTs (X.blk s H scope (compEnvC scope l C X.env) fp) ifs1 (tTs X.K CT cl W0 tc2))
    (he : ∀ (s : Shared) (H : Hp) (C : Addr) (l : List (Str × Addr)) (fp : List Addr), PE (X.blk s H scope (compEnvC scope l C X.env) fp) elt (tE X.K CT cl W0 ce)) (hs : ∀ x, foldedSetIterable iter X.env x = pure x) (hs1 : ∀ env x, foldedSetIterable iter1 env x = pure x) (hy : X.N[i]? = some y) (hyl : X.env.scope.names.lookup y = some .local) (hsw : swapsWith (.ListComp elt [⟨tg, iter, ifs, 0⟩, ⟨tg1, iter1, ifs1, 0⟩] scope pos) (some (.Name y py)) spos.line X.env = pure true) :
    PS X (.Assign [.Name y py] (.ListComp elt [⟨tg, iter, ifs, 0⟩, ⟨tg1, iter1, ifs1, 0⟩] scope pos) spos) (tS X.K CT cl W (.asg (.nm i) (.lc2 ce t ik cs tc ow t2 ik2 its2 tc2 ow2))) := by
  refine PSimp (ps_setLc2 hc hN hy hyl hsw hi ok hv hg ht hi1 hg1 ht1 he hs hs1) fun D σ H ⟨m, G, h, ρ, R, s, q⟩ => ?_
  rw [← how]
  refine lc2_imp hcl ?_
  simp only [ex, bindT] at q
  exact sE_first hcl R s q fun x v h1 m1 G1 H1 _ _ _ R1 s1 r1 q1 => q1.now R1 _ (s1.set r1 i)
end
end Mi

set_option Elab.async false
set_option linter.all false
set_option maxRecDepth 100000
/-! Mi25: sorted(set(xs)) of a list of ints. -/
namespace Mi
open PySem PySem.Spec PyProof.Rows L2
/-- a set just laid -/
abbrev set0 (w : World) : Obj := { cls := .type "set", dict := none, data := .set #[] 0 (.fresh 0 0 (!w.params.followText "set-order")) }
section
variable {P : Program} {w : World} {A : Around} {Er : Value → Shared → Prop} {z : Shared}
set_option maxHeartbeats 3200000 in
/-- set(xs), xs a list of ints: the set of these, known to be walkable -/
theorem make_set {src : Addr} {arr : Array Value} (nums : List Int) {Q : Value → Shared → Prop} (calm : A.handled = none) (isL : z.heap.IsList src arr) (allI : IntsAre arr.toList nums) (few : nums.length + 1 < scanBound)
    (k : ∀ (g : Heap) (t c : Nat), SetR w g z.heap.objs.size (fun j => decide (j ∈ nums)) c → c ≤ nums.length → (∀ b o, z.heap.get? b = some o → g.get? b = some o) → Q (.ref z.heap.objs.size) { z with heap := g, toks := t }) :
    wpAny (model P w) A (call (.type "set") [.ref src]) Q Er z := by
  have sz : arr.size = nums.length := by simpa using allI.length
  obtain ⟨c0, tl0, mro0⟩ := F.called_set.mro
  have made0 := F.called_set.made
  have sub0 := F.called_set.sub
  have notT := F.called_set.notType
  have canC := F.called_set.canCreate
  have tc1 := F.typeCall_set_1 (.ref src)
  refine wpAny_call (codeAny_of_tree ?_)
  show wpAny _ _ (callAny (.type "set") _) _ _ z
  refine wpAny_pure ⟨Code.quiet_builtin _ (by decide +kernel), codeAny_builtin F.entry_type_call ?_⟩
  rw [Around.under_plain (weight_type_call_type "set" [.ref src] []) rfl]
  repeat (any_goals (first | assumption | wp_step))
  refine codeAny_mono (code_set_led1 (.ref src) (E := Er) (Q₁ := fun u z1 => u = .ref z.heap.objs.size ∧ z1 = { z with heap := z.heap.push (set0 w) }) ⟨rfl, rfl⟩) fun res z1 hres => ?_
  match res, hres with
  | .error e, hres => exact hres
  | .ok .next, hres => exact False.elim hres
  | .ok .brk, hres => exact False.elim hres
  | .ok .cont, hres => exact False.elim hres
  | .ok (.ret u), ⟨e1, e2⟩ =>
    subst e1 e2
    have at0 : (z.heap.push (set0 w)).get? z.heap.objs.size = some (set0 w) := Heap.get?_push_size _ rfl
    have ty0 : Shared.TypeIs { z with heap := z.heap.push (set0 w) } (.ref z.heap.objs.size) "set" := ⟨set0 w, at0, rfl⟩
    have ini1 := F.called_set.init.lookup
    have ini2 := F.called_set.init.bind (.ref z.heap.objs.size)
    repeat (any_goals (first | assumption | wp_step))
    refine codeAny_mono (codeAny_call_builtin (R := wants (fun r z2 => r = .none ∧ ∃ g t c, z2 = { z with heap := g, toks := t } ∧ SetR w g z.heap.objs.size (fun j => decide (j ∈ nums)) c ∧ c ≤ nums.length ∧ ∀ b o, z.heap.get? b = some o → g.get? b = some o) Er)
      F.called_set.init.plain F.entry_set_init (check_set_init_1 ty0 ?_)) fun res z2 hres => ?_
    · obtain ⟨⟨c1, d1, dt1, sl1⟩, lo, lc, nl, ld⟩ := isL
      simp only at lc ld
      subst lc ld
      have lo1 : (z.heap.push (set0 w)).get? src = some { cls := .type "list", dict := d1, data := .seq arr nl, slots := sl1 } := Heap.get?_push_of_some _ lo
      have sb1 := F.sub_list_set
      have sb2 := F.sub_list_frozenset
      have nd1 : (Value.type "list" == Value.type "dict") = false := by decide
      have isL1 : (z.heap.push (set0 w)).IsList src arr := ⟨_, lo1, rfl, nl, rfl⟩
      have lt1 := Heap.lt_size lo
      have psz : (z.heap.push (set0 w)).objs.size = z.heap.objs.size + 1 := by rw [Heap.size_push]
      unfold Builtin.«set.__init__» noKeywords Builtin.Frozenset.updateFrom
      generalize hit : pyIter = it0
      wp_walk
      subst hit
      refine wpAny_pyIter_list isL1 (wpAny_bind (wpAny_runValue ?_))
      have calm3 : A.in1.in1.in1.handled = none := by simp [calm]
      have away : z.heap.objs.size ∉ [(z.heap.push (set0 w)).objs.size, src] := fun hm => by
        rcases List.mem_cons.mp hm with e | hm
        · rw [psz] at e
          exact Nat.ne_of_lt (Nat.lt_succ_self _) e
        · exact Nat.ne_of_gt lt1 (List.mem_singleton.mp hm)
      refine set_update_ints ((Walks.list calm3 _ src (Nat.ne_of_lt (by rw [psz]; exact Nat.lt_succ_of_lt lt1)) arr).toS) z.heap.objs.size away nums sz few (fun i v hv => ?vals)
        (arr.size - 0) 0 _ (by omega) (Nat.zero_le _) ⟨⟨_, Heap.get?_push_size _ rfl, rfl, rfl⟩, isL1.push _⟩ ⟨0, Nat.le_refl _, setR_new_at (Heap.get?_push_of_some _ at0)⟩ ?fin
      case vals =>
        have hi : i < nums.length := by rw [← sz]; exact (Array.getElem?_eq_some_iff.mp hv).1
        obtain ⟨t, e⟩ := PyProof.Rows.IntsAre.int_at allI i v (by rw [Array.getElem?_toList]; exact hv)
        exact ⟨nums[i], t, List.getElem?_eq_getElem hi, by rw [e, List.getD_eq_getElem?_getD, List.getElem?_eq_getElem hi]; rfl⟩
      case fin =>
        rintro ⟨g, gs, dr, tk, os⟩ c mv le R
        obtain rfl : gs = z.gens := mv.gens
        obtain rfl : dr = z.drawn := mv.drawn
        obtain rfl : os = z.os := mv.os
        show wpAny _ _ (pure ()) _ _ _
        refine wpAny_pure ?_
        show wpAny _ _ (ret Value.none) _ _ _
        refine wpAny_pure ⟨rfl, g, tk, c, rfl, R, by rw [← sz]; exact le, fun b o e => ?_⟩
        have lb := Heap.lt_size e
        refine mv.heap b o (fun hm => ?_) (Heap.get?_push_of_some _ (Heap.get?_push_of_some _ e))
        rcases List.mem_cons.mp hm with e | hm
        · exact Nat.ne_of_lt lb e
        · have e := List.mem_singleton.mp hm
          rw [e, psz] at lb
          exact Nat.lt_irrefl _ (Nat.lt_of_succ_lt lb)
    · match res, hres with
      | .error e, hres => exact hres
      | .ok .next, hres => exact False.elim hres
      | .ok .brk, hres => exact False.elim hres
      | .ok .cont, hres => exact False.elim hres
      | .ok (.ret r), ⟨e1, g, t, c, e2, R, le, kp⟩ =>
        subst e1 e2
        repeat (any_goals (first | assumption | wp_step))
        exact k g t c R le kp
end
end Mi

set_option Elab.async false
set_option linter.all false
set_option maxRecDepth 100000
/-! Ms1: the set of a text's signs; sorted of it. -/
namespace Mi
open PySem PySem.Spec PyProof.Rows L2 PySem.Froz
/-! ### the table still rises -/
def Alive (w : World) (t : SetTable) : Prop := Ris t.place.toList ∧ (w.params.followText "set-order" = true ∨ t.led = true)
theorem alive_tail {w : World} {ep : Nat} {es : Array (Int × Value)} {t : SetTable} {b : Bool} (h : Alive w t) : Alive w (tailTx ep es t b).2.2 := by
  unfold tailTx
  split
  · exact ⟨relayAll_ris t es _, h.2.imp id fun z => by rw [show (relayAll t es (SetTable.grown es.size)).2.1.led = t.led from relayAll_led t es _]; exact z⟩
  · exact h
theorem alive_add {w : World} {k : Int} {v : Value} {D : SD} (h : Alive w D.2.2) : Alive w (addTx k v D).2.2 := by
  have h1 : Alive w (layNew D.2.2 D.1 k v).2.1 := ⟨layNew_ris _ _ _ _ h.1, h.2.imp id fun z => by rw [layNew_led]; exact z⟩
  unfold addTx
  refine alive_tail ?_
  split
  · exact h1
  · exact h1
/-- the set of texts at a, its members l -/
def SetT (P : Program) (w : World) (h : Heap) (a : Addr) (l : List Str) : Prop := ∃ D : SD, h.get? a = some (sObj "set" D) ∧ TxOk P w D l ∧ Alive w D.2.2
theorem SetT.at {P : Program} {w : World} {h h1 : Heap} {a : Addr} {l : List Str} (R : SetT P w h a l) (k : ∀ o, h.get? a = some o → h1.get? a = some o) : SetT P w h1 a l := by
  obtain ⟨D, e, r⟩ := R
  exact ⟨D, k _ e, r⟩
section
variable {P : Program} {w : World} {A : Around} {Er : Value → Shared → Prop} {s : Shared}
/-- a text that is in already -/
theorem add_there {a : Addr} {D : SD} {l : List Str} {k : Str} {u : Tok} {Q : Bool → Shared → Prop} (ho : s.heap.get? a = some (sObj "set" D)) (F : TxOk P w D l) (hk : k ∈ l) (hb : l.length < scanBound) (q : Q false s) : wpAny (model P w) A (setAddHashed a (.str k u) (hashStr w k)) Q Er s := by
  obtain ⟨es, ep, t⟩ := D
  have dat : (sObj "set" (es, ep, t)).data = .set es ep t := rfl
  have els : ElemsOf (strKind P w) es.toList := F.el
  have few : es.size < scanBound := by rw [show es.size = l.length from F.sz]; exact hb
  have key : (strKind P w).is k (.str k u) = true := is_str k u
  unfold setAddHashed setAddHashedIn
  refine wpAny_holding (wpAny_bind (wpAny_setState_of ho dat F.fit ?_))
  dsimp only
  rw [byScan_of rfl few els]
  simp only [↓reduceIte]
  unfold setAddByScan
  refine wpAny_bind (wpAny_bind (wpAny_rule (wpAny_bind (wpAny_setScan_of key ho dat F.fit els ?_))))
  cases ef : List.findIdx? (fun e => (strKind P w).is k e.2) es.toList with
  | some j =>
    dsimp only
    exact wpAny_pure (wpAny_pure q)
  | none =>
    obtain ⟨e, he, z⟩ := (F.mem k).mp hk
    have c := List.findIdx?_eq_none_iff.mp ef e he
    rw [z] at c
    cases c
/-- one more text -/
def insS (k : Str) (l : List Str) : List Str := if k ∈ l then l else k :: l
theorem add_one {a : Addr} {l : List Str} {k : Str} {u : Tok} {Q : Bool → Shared → Prop} (R : SetT P w s.heap a l) (hb : l.length + 1 < scanBound)
    (q : ∀ b g, Heap.SameBut a s.heap g → SetT P w g a (insS k l) → Q b { s with heap := g }) : wpAny (model P w) A (setAddHashed a (.str k u) (hashStr w k)) Q Er s := by
  obtain ⟨D, ho, F, al⟩ := R
  unfold insS at q
  by_cases hk : k ∈ l
  · simp only [if_pos hk] at q
    exact add_there ho F hk (by omega) (q false s.heap (Heap.SameBut.refl a s.heap) ⟨D, ho, F, al⟩)
  · simp only [if_neg hk] at q
    exact add_x ho F hk hb (q true _ (Heap.SameBut.update s.heap a _) ⟨_, get_upd _ ho rfl, add_ok u F, alive_add al⟩)
/-- the members behind so many signs -/
def signs (xs : List Nat) : List Str := xs.foldl (fun l c => insS (sing c) l) []
theorem insS_len {k : Str} {l : List Str} : (insS k l).length ≤ l.length + 1 := by
  unfold insS
  split <;> simp
theorem signs_snoc {xs : List Nat} {c : Nat} : signs (xs ++ [c]) = insS (sing c) (signs xs) := by simp [signs]
theorem signs_len {xs : List Nat} : (signs xs).length ≤ xs.length := by
  have : ∀ (xs : List Nat) (l : List Str), (xs.foldl (fun l c => insS (sing c) l) l).length ≤ l.length + xs.length := by
    intro xs
    induction xs with
    | nil => intro l; simp
    | cons c r ih =>
      intro l
      have h1 := ih (insS (sing c) l)
      have h2 := insS_len (k := sing c) (l := l)
      simp only [List.foldl_cons, List.length_cons]
      omega
  have h := this xs []
  simp only [List.length_nil, Nat.zero_add] at h
  exact h
/-- set.update's loop over a text's signs -/
theorem update_signs {I : Addr} {fp wr : List Addr} {G : Array GenState → Array GenState → Prop} {St : Nat → Shared → Prop} {x : Str} {R : Result → Shared → Prop}
    (W : WalksS P w A.in1 I fp wr G x.cps.size (SignAt x) St) (S : Addr) (away : S ∉ fp) (few : x.cps.size + 1 < scanBound) :
    ∀ (m i : Nat) (z : Shared), i + m = x.cps.size → St i z → SetT P w z.heap S (signs (x.cps.toList.take i)) →
      (∀ y, Moved (S :: wr) G z y → SetT P w y.heap S (signs x.cps.toList) → R (.ok (.ret .none)) y) →
      codeAny (model P w) A (.builtin "set.update.loop" ⟨[.ref S, .ref I], []⟩) R z := by
  have nw : S ∉ wr := fun h => away (W.sub _ h)
  have sub1 : ∀ b ∈ wr, b ∈ S :: wr := fun b hb => List.mem_cons_of_mem _ hb
  intro m
  induction m with
  | zero =>
    intro i z hi st hS k
    obtain rfl : i = x.cps.size := by omega
    refine codeAny_builtin F.entry_set_update_loop ?_
    rw [Around.under_plainId F.plain_set_update_loop _]
    show wpAny _ A.in1 (pyNext (.ref I) >>= _) _ _ z
    refine wpAny_bind (W.done z _ _ st fun y mv => ?_)
    show wpAny _ A.in1 (ret Value.none) _ _ y
    rw [List.take_of_length_le (by simp)] at hS
    exact wpAny_pure (k y (mv.mono sub1) (hS.at fun o e => mv.heap S o nw e))
  | succ m ih =>
    intro i z hi st hS k
    refine codeAny_builtin F.entry_set_update_loop ?_
    rw [Around.under_plainId F.plain_set_update_loop _]
    show wpAny _ A.in1 (pyNext (.ref I) >>= _) _ _ z
    refine wpAny_bind (W.item i z _ _ (by omega) st fun v y hv st1 mv => ?_)
    obtain ⟨c, u, hc, rfl⟩ := hv
    have hS1 : SetT P w y.heap S (signs (x.cps.toList.take i)) := hS.at fun o e => mv.heap S o nw e
    show wpAny _ A.in1 (holding [Value.str (sing c) u] (setAdd S (.str (sing c) u)) >>= _) _ _ y
    refine wpAny_bind (wpAny_holding ?_)
    unfold setAdd
    refine wpAny_holding (wpAny_bind ((strKind P w).pyHash (k := sing c) (is_str _ _) ?_))
    have le : (signs (x.cps.toList.take i)).length ≤ i := Nat.le_trans signs_len (by simp; omega)
    refine add_one (s := { y with toks := y.toks + 1 }) hS1 (by omega) fun b g sb hS2 => ?_
    have hS3 : SetT P w g S (signs (x.cps.toList.take (i + 1))) := by
      rw [List.take_add_one, show x.cps.toList[i]? = some c by rw [Array.getElem?_toList]; exact hc]
      show SetT P w g S (signs (x.cps.toList.take i ++ [c]))
      rw [signs_snoc]
      exact hS2
    refine wpAny_pure ⟨plainId_quiet F.plain_set_update_loop _, ih (i + 1) _ (by omega) (W.frame _ y _ _ st1 (Nat.le_succ _) fun b hb o e => ?_) hS3 fun y2 mv2 hS4 => ?_⟩
    · rw [sb.2 b (fun h : b = S => away (by rw [← h]; exact hb))]
      exact e
    · refine k y2 (Moved.trans W.gtrans ((mv.mono sub1).then_heap (Nat.le_succ _) fun b o hb e => ?_) mv2) hS4
      rw [sb.2 b (fun h : b = S => hb (by rw [h]; exact List.mem_cons_self))]
      exact e
/-- a new set of texts -/
theorem setT_new {h : Heap} {a : Addr} (ho : h.get? a = some { cls := .type "set", dict := none, data := .set #[] 0 (.fresh 0 0 (!w.params.followText "set-order")) }) : SetT P w h a [] :=
  ⟨(#[], 0, _), ho, TxOk.nil (by rfl), List.Pairwise.nil, by
    show _ ∨ (!w.params.followText "set-order") = true
    cases w.params.followText "set-order"
    · exact .inr rfl
    · exact .inl rfl⟩
set_option maxHeartbeats 3200000 in
/-- set(x), x a text -/
theorem make_signs {x : Str} {u : Tok} {Q : Value → Shared → Prop} (calm : A.handled = none) (few : x.cps.size + 1 < scanBound)
    (k : ∀ (g : Heap) (t : Nat), SetT P w g s.heap.objs.size (signs x.cps.toList) → (∀ b o, s.heap.get? b = some o → g.get? b = some o) → Q (.ref s.heap.objs.size) { s with heap := g, toks := t }) :
    wpAny (model P w) A (call (.type "set") [.str x u]) Q Er s := by
  obtain ⟨c0, tl0, mro0⟩ := F.called_set.mro
  have made0 := F.called_set.made
  have sub0 := F.called_set.sub
  have notT := F.called_set.notType
  have canC := F.called_set.canCreate
  have tc1 := F.typeCall_set_1 (.str x u)
  refine wpAny_call (codeAny_of_tree ?_)
  show wpAny _ _ (callAny (.type "set") _) _ _ s
  refine wpAny_pure ⟨Code.quiet_builtin _ (by decide +kernel), codeAny_builtin F.entry_type_call ?_⟩
  rw [Around.under_plain (weight_type_call_type "set" [.str x u] []) rfl]
  repeat (any_goals (first | assumption | wp_step))
  refine codeAny_mono (code_set_led1 (.str x u) (E := Er) (Q₁ := fun v z1 => v = .ref s.heap.objs.size ∧ z1 = { s with heap := s.heap.push (set0 w) }) ⟨rfl, rfl⟩) fun res z1 hres => ?_
  match res, hres with
  | .error e, hres => exact hres
  | .ok .next, hres => exact False.elim hres
  | .ok .brk, hres => exact False.elim hres
  | .ok .cont, hres => exact False.elim hres
  | .ok (.ret v), ⟨e1, e2⟩ =>
    subst e1 e2
    have at0 : (s.heap.push (set0 w)).get? s.heap.objs.size = some (set0 w) := Heap.get?_push_size _ rfl
    have ty0 : Shared.TypeIs { s with heap := s.heap.push (set0 w) } (.ref s.heap.objs.size) "set" := ⟨set0 w, at0, rfl⟩
    have ini1 := F.called_set.init.lookup
    have ini2 := F.called_set.init.bind (.ref s.heap.objs.size)
    repeat (any_goals (first | assumption | wp_step))
    refine codeAny_mono (codeAny_call_builtin (R := wants (fun r z2 => r = .none ∧ ∃ g t, z2 = { s with heap := g, toks := t } ∧ SetT P w g s.heap.objs.size (signs x.cps.toList) ∧ ∀ b o, s.heap.get? b = some o → g.get? b = some o) Er)
      F.called_set.init.plain F.entry_set_init (check_set_init_1 ty0 ?_)) fun res z2 hres => ?_
    · have sb1 := F.sub_str_set
      have sb2 := F.sub_str_frozenset
      have nd1 : (Value.type "str" == Value.type "dict") = false := by decide
      have psz : (s.heap.push (set0 w)).objs.size = s.heap.objs.size + 1 := by rw [Heap.size_push]
      unfold Builtin.«set.__init__» noKeywords Builtin.Frozenset.updateFrom
      generalize hit : pyIter = it0
      wp_walk
      subst hit
      refine wpAny_pyIter_str fun o St W st0 => wpAny_bind (wpAny_runValue ?_)
      have calm3 : A.in1.in1.in1.handled = none := by simp [calm]
      have away : s.heap.objs.size ∉ [(s.heap.push (set0 w)).objs.size] := fun hm => by
        have e := List.mem_singleton.mp hm
        rw [psz] at e
        exact Nat.ne_of_lt (Nat.lt_succ_self _) e
      refine update_signs (W _ calm3).toS s.heap.objs.size away few x.cps.size 0 _ (by omega) st0 (setT_new (Heap.get?_push_of_some _ at0)) ?fin
      rintro ⟨g, gs, dr, tk, os⟩ mv R
      obtain rfl : gs = s.gens := mv.gens
      obtain rfl : dr = s.drawn := mv.drawn
      obtain rfl : os = s.os := mv.os
      show wpAny _ _ (pure ()) _ _ _
      refine wpAny_pure ?_
      show wpAny _ _ (ret Value.none) _ _ _
      refine wpAny_pure ⟨rfl, g, tk, rfl, R, fun b o2 e => ?_⟩
      have lb := Heap.lt_size e
      refine mv.heap b o2 (fun hm => ?_) (Heap.get?_push_of_some _ (Heap.get?_push_of_some _ e))
      rcases List.mem_cons.mp hm with e | hm
      · exact Nat.ne_of_lt lb e
      · have e := List.mem_singleton.mp hm
        rw [e, psz] at lb
        exact Nat.lt_irrefl _ (Nat.lt_of_succ_lt lb)
    · match res, hres with
      | .error e, hres => exact hres
      | .ok .next, hres => exact False.elim hres
      | .ok .brk, hres => exact False.elim hres
      | .ok .cont, hres => exact False.elim hres
      | .ok (.ret r), ⟨e1, g, t, e2, R, kp⟩ =>
        subst e1 e2
        repeat (any_goals (first | assumption | wp_step))
        exact k g t R kp
end
end Mi

set_option Elab.async false
set_option linter.all false
set_option maxRecDepth 100000
/-! Ms2: sorted of a set of texts. -/
namespace Mi
open PySem PySem.Spec PyProof.Rows L2 PySem.Froz
section
variable {P : Program} {w : World} {A : Around} {Er : Value → Shared → Prop} {s : Shared}
/-! ### sorted of it -/
theorem strs_of {l : List Value} (h : ∀ v ∈ l, ∃ k tk, v = Value.str k tk) : StrsAre l (l.map strOf) := by
  induction l with
  | nil => exact .nil
  | cons v l ih =>
    obtain ⟨k, tk, rfl⟩ := h v List.mem_cons_self
    exact .cons k tk (ih fun u hu => h u (List.mem_cons_of_mem _ hu))
theorem is_inv {k : Str} {v : Value} (h : (strKind P w).is k v = true) : ∃ tk, v = .str k tk := by
  have z : Value.isStrOf k v = true := h
  cases v <;> simp [Value.isStrOf] at z
  subst z
  exact ⟨_, rfl⟩
theorem sorted_signs {a : Addr} {l : List Str} {Q : Value → Shared → Prop} (R : SetT P w s.heap a l) (calm : A.handled = none) (few : l.length < 64)
    (k : ∀ s1 p (out : Array Value) (c : Nat) (ys : List Str), (∀ b o, s.heap.get? b = some o → s1.heap.get? b = some o) → s1.gens = s.gens → s1.os = s.os → s.heap.objs.size ≤ p →
      s1.heap.get? p = some (seqObj "list" out c) → StrsAre out.toList ys → sortedS ys = true → ys.length = l.length → (∀ y, y ∈ ys ↔ y ∈ l) → Q (.ref p) s1) :
    wpAny (model P w) A (call (.builtin "sorted") [.ref a]) Q Er s := by
  obtain ⟨⟨es, ep, t⟩, ho, T, al⟩ := R
  have hn : es.size = l.length := T.sz
  have el : ElemsOf (strKind P w) es.toList := T.el
  have hm : ∀ k : Str, k ∈ l ↔ ∃ e ∈ es.toList, (strKind P w).is k e.2 = true := T.mem
  refine Calls.call_function_entry kind_sorted plain_sorted entry_sorted (args_sorted1 _) ?_
  unfold Builtin.«sorted»
  refine wpAny_bind (m := checkCount "sorted" 1 1 _) (wpAny_pure ?_)
  refine wpAny_bind (collect_set (A := A.in1) calm ⟨_, ho, rfl, rfl⟩ T.fit (by show es.size < scanBound; rw [hn]; unfold scanBound; omega) al.1 al.2 fun s1 vs k1 hz g1 o1 pm => ?_)
  have hvl : vs.length = l.length := by rw [pm.length_eq, List.length_map, Array.length_toList]; exact hn
  have sta : StrsAre vs (vs.map strOf) := strs_of fun v hv => by
    obtain ⟨e, he, q⟩ := List.mem_map.mp (pm.mem_iff.mp hv)
    obtain ⟨⟨k, z, _⟩, _⟩ := el e he
    obtain ⟨tk, z⟩ := is_inv z
    exact ⟨k, tk, by rw [← q]; exact z⟩
  have memv : ∀ y, y ∈ vs.map strOf ↔ y ∈ l := fun y => by
    rw [hm y]
    constructor
    · intro hy
      obtain ⟨v, hv, q⟩ := List.mem_map.mp hy
      obtain ⟨e, he, q2⟩ := List.mem_map.mp (pm.mem_iff.mp hv)
      obtain ⟨⟨k, z, _⟩, _⟩ := el e he
      obtain ⟨tk, z2⟩ := is_inv z
      rw [← q2, z2] at q
      obtain rfl : k = y := q
      exact ⟨e, he, z⟩
    · rintro ⟨e, he, z⟩
      obtain ⟨tk, z2⟩ := is_inv z
      exact List.mem_map.mpr ⟨e.2, pm.mem_iff.mpr (List.mem_map.mpr ⟨e, he, rfl⟩), by rw [z2]; rfl⟩
  refine wpAny_bind (wpAny_newList ?_ (by rw [hvl, sizeLine_eq]; omega))
  have hoL : (s1.heap.push (seqObj "list" vs.toArray 0)).get? s1.heap.objs.size = some (seqObj "list" vs.toArray 0) := Heap.get?_push_size _ rfl
  refine wpAny_bind (wpAny_holding (wpAny_call_entry slot_list_sort ⟨_, hoL, rfl⟩ entry_list_sort (list_sort_treeK strKind_oneLt hoL sta.keysOf (fun v₁ v₂ rest e => keyKind_strs (by rw [← e]; exact sta)) (by rw [hvl]; exact few) fun st a1 a2 => ⟨_, rfl, ?_⟩) (args_list_sort _)))
  obtain ⟨ys, b1, b2, b3⟩ := sorted_out_str sta a1 a2
  obtain ⟨c, hc⟩ := sortedHeap_at (vs := vs) (out := (arrOf st).map (·.2)) hoL
  refine wpAny_pure ⟨_, rfl, k _ s1.heap.objs.size _ c ys (fun b o2 e => ?_) g1 o1 hz hc b1 b3 ?_ fun y => (b2.mem_iff).trans (memv y)⟩
  · have q := k1 b o2 e
    have hlt := Heap.lt_size q
    show (sortedHeap (s1.heap.push (seqObj "list" vs.toArray 0)) s1.heap.objs.size vs _).get? b = some o2
    rw [sortedHeap_old (Nat.ne_of_lt hlt) (by rw [size_push']; exact Nat.lt_succ_of_lt hlt)]
    exact Heap.get?_push_of_some _ q
  · rw [b2.length_eq, List.length_map, hvl]
end
end Mi

set_option Elab.async false
set_option linter.all false
set_option maxRecDepth 100000
/-! Mi26: sorted(set(xs)), the rule. -/
namespace Mi
open PySem PySem.Spec PyProof.Rows L2
theorem insU_mem (x : Int) : ∀ (l : List Int) (k : Int), k ∈ insU x l ↔ k = x ∨ k ∈ l
  | [], k => by simp [insU]
  | y :: r, k => by
    unfold insU
    split
    · simp
    · split
      · rename_i h1 h2
        subst h2
        simp
      · simp only [List.mem_cons, insU_mem x r k]
        constructor
        · rintro (h | h | h)
          · exact .inr (.inl h)
          · exact .inl h
          · exact .inr (.inr h)
        · rintro (h | h | h)
          · exact .inr (.inl h)
          · exact .inl h
          · exact .inr (.inr h)
theorem insU_asc (x : Int) : ∀ l : List Int, l.Pairwise (· < ·) → (insU x l).Pairwise (· < ·)
  | [], _ => by simp [insU]
  | y :: r, h => by
    obtain ⟨h1, h2⟩ := List.pairwise_cons.mp h
    unfold insU
    split
    · rename_i hx
      refine List.pairwise_cons.mpr ⟨fun z hz => ?_, h⟩
      rcases List.mem_cons.mp hz with rfl | hz
      · exact hx
      · exact Int.lt_trans hx (h1 z hz)
    · split
      · exact h
      · rename_i hx hy
        refine List.pairwise_cons.mpr ⟨fun z hz => ?_, insU_asc x r h2⟩
        rcases (insU_mem x r z).mp hz with rfl | hz
        · omega
        · exact h1 z hz
theorem sortU_mem : ∀ (l : List Int) (k : Int), k ∈ sortU l ↔ k ∈ l
  | [], k => by simp [sortU]
  | x :: r, k => by rw [sortU, insU_mem, sortU_mem r k, List.mem_cons]
theorem sortU_asc : ∀ l : List Int, (sortU l).Pairwise (· < ·)
  | [] => by simp [sortU]
  | x :: r => insU_asc x (sortU r) (sortU_asc r)
theorem asc_mem : ∀ {a b : List Int}, a.Pairwise (· < ·) → b.Pairwise (· < ·) → (∀ k, k ∈ a ↔ k ∈ b) → a = b
  | [], [], _, _, _ => rfl
  | [], y :: t, _, _, h => by have := (h y).mpr List.mem_cons_self; cases this
  | x :: r, [], _, _, h => by have := (h x).mp List.mem_cons_self; cases this
  | x :: r, y :: t, ha, hb, h => by
    obtain ⟨a1, a2⟩ := List.pairwise_cons.mp ha
    obtain ⟨b1, b2⟩ := List.pairwise_cons.mp hb
    have e : x = y := by
      rcases List.mem_cons.mp ((h x).mp List.mem_cons_self) with e | hx
      · exact e
      · rcases List.mem_cons.mp ((h y).mpr List.mem_cons_self) with e | hy
        · exact e.symm
        · have := a1 y hy; have := b1 x hx; omega
    subst e
    refine congrArg (x :: ·) (asc_mem a2 b2 fun k => ⟨fun hk => ?_, fun hk => ?_⟩)
    · rcases List.mem_cons.mp ((h k).mp (List.mem_cons_of_mem _ hk)) with e | hk'
      · have := a1 k hk; omega
      · exact hk'
    · rcases List.mem_cons.mp ((h k).mpr (List.mem_cons_of_mem _ hk)) with e | hk'
      · have := b1 k hk; omega
      · exact hk'
section
variable {X : Cx} {CT : Cts} {cl : Cl} {W : WX} {e : Expr} {c : E} {pos p p2 q2 : Pos}
def rSetL (K : PySem.W.Frag) (w : World) : List V → Hp → VK → Prop := fun xs H Q => ∃ (a : Addr) (ns : List Int), xs = [V.ref a] ∧ SqL K H a (ns.map V.int) ∧ ns.length < 63 ∧ ∀ (b : Addr) (c : Nat), c ≤ ns.length → H b = none → Q (.ref b) (upd H b (SetO w b (fun j => decide (j ∈ ns)) c))
theorem cr_setL (hc : X.calm = true) : CallR X (.type "set") (rSetL X.K X.w) := by
  rintro pins s σ H xs us Q I r ⟨a, ns, rfl, hq, few, k⟩
  obtain ⟨v, rfl, rv⟩ := vals1 r
  cases rv
  obtain ⟨its, vs, pl, _⟩ := I.list hq
  refine make_set ns (I.ok.hd hc) pl.isList (by simpa using vs.ints) (by unfold scanBound; omega) fun g t c R le kp => ?_
  have fr : H s.heap.objs.size = none := I.hok.fresh (Nat.le_refl _)
  exact ⟨.ref s.heap.objs.size, _, I.laid (t' := t) kp (Nat.le_refl _) (setO_new R), rfl, k _ c le fr⟩
end
end Mi

set_option Elab.async false
set_option linter.all false
set_option maxRecDepth 100000
/-! Ms3: sorted(set(x)) of a list of ints or of a text: the rule. -/
namespace Mi
open PySem PySem.Spec PyProof.Rows L2 PySem.Froz
/-! ### signs in order -/
theorem insC_mem (x : Char) : ∀ (l : List Char) (k : Char), k ∈ insC x l ↔ k = x ∨ k ∈ l
  | [], k => by simp [insC]
  | y :: r, k => by
    unfold insC
    split
    · simp
    · split
      · rename_i h1 h2
        obtain rfl : x = y := Char.ext (UInt32.toNat_inj.mp h2)
        simp
      · simp only [List.mem_cons, insC_mem x r k]
        constructor
        · rintro (h | h | h)
          · exact .inr (.inl h)
          · exact .inl h
          · exact .inr (.inr h)
        · rintro (h | h | h)
          · exact .inr (.inl h)
          · exact .inl h
          · exact .inr (.inr h)
theorem insC_asc (x : Char) : ∀ l : List Char, l.Pairwise (fun a b => a.toNat < b.toNat) → (insC x l).Pairwise (fun a b => a.toNat < b.toNat)
  | [], _ => by simp [insC]
  | y :: r, h => by
    obtain ⟨h1, h2⟩ := List.pairwise_cons.mp h
    unfold insC
    split
    · rename_i hx
      refine List.pairwise_cons.mpr ⟨fun z hz => ?_, h⟩
      rcases List.mem_cons.mp hz with rfl | hz
      · exact hx
      · exact Nat.lt_trans hx (h1 z hz)
    · split
      · exact h
      · rename_i hx hy
        refine List.pairwise_cons.mpr ⟨fun z hz => ?_, insC_asc x r h2⟩
        rcases (insC_mem x r z).mp hz with rfl | hz
        · omega
        · exact h1 z hz
theorem sortC_mem : ∀ (l : List Char) (k : Char), k ∈ sortC l ↔ k ∈ l
  | [], k => by simp [sortC]
  | x :: r, k => by rw [sortC, insC_mem, sortC_mem r k, List.mem_cons]
theorem sortC_asc : ∀ l : List Char, (sortC l).Pairwise (fun a b => a.toNat < b.toNat)
  | [] => by simp [sortC]
  | x :: r => insC_asc x (sortC r) (sortC_asc r)
theorem sing_inj {a b : Nat} (h : sing a = sing b) : a = b := by
  have z : [a] = [b] := congrArg (fun y : Str => y.cps.toList) h
  exact (List.cons.inj z).1
theorem insS_mem {k y : Str} {l : List Str} : y ∈ insS k l ↔ y = k ∨ y ∈ l := by
  unfold insS
  split
  · rename_i h
    constructor
    · exact .inr
    · rintro (rfl | q)
      · exact h
      · exact q
  · exact List.mem_cons
theorem insS_nodup {k : Str} {l : List Str} (h : l.Nodup) : (insS k l).Nodup := by
  unfold insS
  split
  · exact h
  · rename_i q
    exact List.nodup_cons.mpr ⟨q, h⟩
theorem signs_facts : ∀ (xs : List Nat) (l : List Str), l.Nodup → ((xs.foldl (fun l c => insS (sing c) l) l).Nodup ∧ ∀ y, y ∈ xs.foldl (fun l c => insS (sing c) l) l ↔ (∃ c ∈ xs, y = sing c) ∨ y ∈ l)
  | [], l, h => ⟨h, fun y => by simp⟩
  | x :: r, l, h => by
    obtain ⟨h1, h2⟩ := signs_facts r (insS (sing x) l) (insS_nodup h)
    refine ⟨h1, fun y => ?_⟩
    rw [List.foldl_cons, h2 y, insS_mem]
    constructor
    · rintro (⟨c, hc, rfl⟩ | rfl | q)
      · exact .inl ⟨c, List.mem_cons_of_mem _ hc, rfl⟩
      · exact .inl ⟨x, List.mem_cons_self, rfl⟩
      · exact .inr q
    · rintro (⟨c, hc, rfl⟩ | q)
      · rcases List.mem_cons.mp hc with rfl | hc
        · exact .inr (.inl rfl)
        · exact .inl ⟨c, hc, rfl⟩
      · exact .inr (.inr q)
theorem perm_of_sub {α : Type} [DecidableEq α] : ∀ {l ys : List α}, l.Nodup → (∀ y ∈ l, y ∈ ys) → ys.length = l.length → l.Perm ys
  | [], ys, _, _, e => by
    have z : ys = [] := List.eq_nil_of_length_eq_zero (by simpa using e)
    rw [z]
  | x :: r, ys, n, h, e => by
    obtain ⟨n1, n2⟩ := List.nodup_cons.mp n
    have hx := h x List.mem_cons_self
    have p := List.perm_cons_erase hx
    refine List.Perm.trans (List.Perm.cons x (perm_of_sub n2 (fun y hy => ?_) ?_)) p.symm
    · have ne : y ≠ x := fun z => n1 (z ▸ hy)
      exact (List.mem_erase_of_ne ne).mpr (h y (List.mem_cons_of_mem _ hy))
    · have := p.length_eq
      simp only [List.length_cons] at this e
      omega
theorem asc_of_sorted : ∀ (l : List Nat), sortedS (l.map sing) = true → l.Nodup → l.Pairwise (· < ·) := by
  have go : ∀ (l : List Nat) (p : Nat), risingS (sing p) (l.map sing) = true → (p :: l).Nodup → (p :: l).Pairwise (· < ·) := by
    intro l
    induction l with
    | nil => intro p _ _; simp
    | cons x r ih =>
      intro p h n
      have h : (!ltCps (sing x).cps.toList (sing p).cps.toList && risingS (sing x) (r.map sing)) = true := h
      rw [Bool.and_eq_true, Bool.not_eq_true'] at h
      obtain ⟨n1, n2⟩ := List.nodup_cons.mp n
      have q := ih x h.2 n2
      have lt : p < x := by
        have z := h.1
        rw [ltCps_eq, decide_eq_false_iff_not] at z
        have z : ¬ ([x] < [p]) := z
        rw [List.cons_lt_cons_iff] at z
        have ne : p ≠ x := fun e => n1 (e ▸ List.mem_cons_self)
        have : ¬ x < p := fun e => z (.inl e)
        omega
      refine List.pairwise_cons.mpr ⟨fun y hy => ?_, q⟩
      rcases List.mem_cons.mp hy with rfl | hy
      · exact lt
      · exact Nat.lt_trans lt ((List.pairwise_cons.mp q).1 y hy)
  intro l h n
  cases l with
  | nil => simp
  | cons p r => exact go r p h n
theorem asc_memN : ∀ {a b : List Nat}, a.Pairwise (· < ·) → b.Pairwise (· < ·) → (∀ k, k ∈ a ↔ k ∈ b) → a = b := by
  intro a b ha hb h
  have inj : ∀ x y : Nat, (x : Int) = y → x = y := fun x y e => Int.ofNat.inj e
  have q : a.map Int.ofNat = b.map Int.ofNat := asc_mem (by
      rw [List.pairwise_map]
      exact ha.imp fun h => Int.ofNat_lt.mpr h) (by
      rw [List.pairwise_map]
      exact hb.imp fun h => Int.ofNat_lt.mpr h) fun k => by
    simp only [List.mem_map, h]
  exact (List.map_inj_right fun x y e => Int.ofNat.inj e).mp q
/-- the texts that sorted gives are the signs in order -/
theorem sorted_is {s : List Char} {ys : List Str} (hs : sortedS ys = true) (hl : ys.length = (signs (s.map Char.toNat)).length) (hm : ∀ y, y ∈ ys ↔ y ∈ signs (s.map Char.toNat)) : ys = (sortC s).map fun c => S2 [c] := by
  obtain ⟨f1, f2⟩ := signs_facts (s.map Char.toNat) [] List.nodup_nil
  have nd : ys.Nodup := (perm_of_sub f1 (fun y hy => (hm y).mpr hy) hl).nodup_iff.mp f1
  obtain ⟨cs, rfl⟩ : ∃ cs : List Nat, ys = cs.map sing := by
    have : ∀ (ys : List Str), (∀ y ∈ ys, ∃ c, y = sing c) → ∃ cs : List Nat, ys = cs.map sing := by
      intro ys
      induction ys with
      | nil => exact fun _ => ⟨[], rfl⟩
      | cons y r ih =>
        intro h
        obtain ⟨c, rfl⟩ := h y List.mem_cons_self
        obtain ⟨cs, rfl⟩ := ih fun z hz => h z (List.mem_cons_of_mem _ hz)
        exact ⟨c :: cs, rfl⟩
    refine this ys fun y hy => ?_
    rcases (f2 y).mp ((hm y).mp hy) with ⟨c, _, e⟩ | z
    · exact ⟨c, e⟩
    · cases z
  have nd2 : cs.Nodup := by
    have : ∀ (cs : List Nat), (cs.map sing).Nodup → cs.Nodup := by
      intro cs
      induction cs with
      | nil => exact fun _ => List.nodup_nil
      | cons c r ih =>
        intro h
        obtain ⟨h1, h2⟩ := List.nodup_cons.mp h
        exact List.nodup_cons.mpr ⟨fun z => h1 (List.mem_map.mpr ⟨c, z, rfl⟩), ih h2⟩
    exact this cs nd
  have e : cs = (sortC s).map Char.toNat := by
    refine asc_memN (asc_of_sorted cs hs nd2) (by rw [List.pairwise_map]; exact sortC_asc s) fun k => ?_
    have a1 : k ∈ cs ↔ sing k ∈ cs.map sing := ⟨fun h => List.mem_map.mpr ⟨k, h, rfl⟩, fun h => by
      obtain ⟨j, hj, e⟩ := List.mem_map.mp h
      rw [← sing_inj e]
      exact hj⟩
    rw [a1, hm, show signs (s.map Char.toNat) = (s.map Char.toNat).foldl (fun l c => insS (sing c) l) [] from rfl, f2]
    simp only [List.mem_map, sortC_mem, List.not_mem_nil, or_false]
    constructor
    · rintro ⟨c, ⟨x, hx, rfl⟩, e⟩
      exact ⟨x, hx, (sing_inj e).symm⟩
    · rintro ⟨x, hx, rfl⟩
      exact ⟨_, ⟨x, hx, rfl⟩, rfl⟩
  rw [e, List.map_map]
  rfl
/-! ### the rules -/
def SetTO (P : Program) (w : World) (a : Addr) (l : List Str) : HO := .ext fun h => SetT P w h a l
theorem setTO_new {P : Program} {w : World} {H : Hp} {h : Heap} {a : Addr} {l : List Str} (R : SetT P w h a l) : ObjOk P w H h a (SetTO P w a l) := by
  obtain ⟨D, e, r⟩ := id R
  exact ⟨R, ⟨_, e⟩, fun h1 h2 p k => SetT.at p k⟩
section
variable {X : Cx} {CT : Cts} {cl : Cl} {W : WX} {e : Expr} {c : E} {pos p p2 q2 : Pos}
def rSetX (P : Program) (w : World) : List V → Hp → VK → Prop := fun xs H Q => ∃ s : List Char, xs = [V.str (S2 s)] ∧ s.length < 63 ∧ ∀ b, H b = none → Q (.ref b) (upd H b (SetTO P w b (signs (s.map Char.toNat))))
theorem cr_setX (hc : X.calm = true) : CallR X (.type "set") (rSetX X.prog X.w) := by
  rintro pins z σ H xs us Q I r ⟨s, rfl, few, q⟩
  obtain ⟨v, rfl, rv⟩ := vals1 r
  obtain ⟨t, rfl⟩ := rv
  refine make_signs (I.ok.hd hc) (by show (s.map Char.toNat).toArray.size + 1 < scanBound; simp; unfold scanBound; omega) fun g tk R kp => ?_
  have fr : H z.heap.objs.size = none := I.hok.fresh (Nat.le_refl _)
  have R : SetT X.prog X.w g z.heap.objs.size (signs (s.map Char.toNat)) := by simpa using R
  exact ⟨.ref z.heap.objs.size, _, I.laid (t' := tk) kp (Nat.le_refl _) (setTO_new R), rfl, q _ fr⟩
def rSortedX (P : Program) (w : World) : List V → Hp → VK → Prop := fun xs H Q => ∃ (a : Addr) (l : List Str), xs = [V.ref a] ∧ H a = some (SetTO P w a l) ∧ l.length < 64 ∧
  ∀ (ys : List Str) (b : Addr), sortedS ys = true → ys.length = l.length → (∀ y, y ∈ ys ↔ y ∈ l) → H b = none → Q (.ref b) (upd H b (.lst (ys.map V.str)))
theorem cr_sortedX (hc : X.calm = true) : CallR X (.builtin "sorted") (rSortedX X.prog X.w) := by
  rintro pins z σ H xs us Q I r ⟨a, l, rfl, ha, few, q⟩
  obtain ⟨v, rfl, rv⟩ := vals1 r
  obtain rfl : v = Value.ref a := rv
  have R : SetT X.prog X.w z.heap a l := (I.hok a _ ha).1
  refine sorted_signs R (I.ok.hd hc) few fun z2 b out n ys kp hg ho hp ht hi hs hl hm => ?_
  have fr : H b = none := I.hok.fresh hp
  have size : (ys.map V.str).length ≤ sizeLine := by rw [List.length_map, hl, sizeLine_eq]; omega
  obtain ⟨h2, g2, d2, t2, o2⟩ := z2
  obtain rfl : o2 = z.os := ho
  have hg : g2 = z.gens := hg
  have kp : ∀ b o, z.heap.get? b = some o → h2.get? b = some o := kp
  have J : L2.Inv X pins σ (upd H b (.lst (ys.map V.str))) ⟨h2, g2, d2, t2, z.os⟩ := I.call (ch := []) (Un.laid kp hp fr) (I.hok.laid kp hp ⟨size, out.toList, n, vals_of_strs hi, ht⟩) (by rw [hg]; exact I.bare) (fun _ z => nomatch z)
  exact ⟨.ref b, _, J, rfl, q ys b hs hl hm fr⟩
theorem I_ssetX (hcl : GroC cl) (hc : X.calm = true) (hg : Gl X "sorted") (hm : X.mg "sorted" = none) (hg2 : Gl X "set") (hm2 : X.mg "set" = none) (h1 : PE X e (tE X.K CT cl W c)) (hs : starEach [e] X.env = (false, eval e X.env) :: starEach [] X.env)
    (hs2 : starEach [.Call (.Name "set" p2) [e] [] q2] X.env = (false, eval (.Call (.Name "set" p2) [e] [] q2) X.env) :: starEach [] X.env) (hpl : (backTo pos (starEach [] X.env)).any (·.1) = false) (hpl2 : (backTo q2 (starEach [] X.env)).any (·.1) = false)
    (b1 : bootBuiltins "sorted" = some (.builtin "sorted")) (b2 : bootBuiltins "set" = some (.type "set")) :
    PE X (.Call (.Name "sorted" p) [.Call (.Name "set" p2) [e] [] q2] [] pos) (tE X.K CT cl W (.blt "sorted set" [c])) :=
  PEimp (pe_callB (CallR.or (cr_sortedSet hc) (cr_sortedX hc)) hg hm b1 (pa_cons (pe_callTy (CallR.or (cr_setL hc) (cr_setX hc)) hg2 hm2 b2 (pa_cons h1 pa_nil hs) (by decide) (by decide) hs hpl2) pa_nil hs2) (by decide) (by decide) hs2 hpl) fun σ H Q ⟨m, G, h, ρ, R, s, q⟩ => by
    have z : ev cl (.blt "sorted set" [c]) ρ h = (ev cl c ρ h).bind fun x h1 => bltV "sorted set" [x] h1 := by
      simp only [ev, evs]
      cases ev cl c ρ h <;> rfl
    rw [z] at q
    refine tE_first hcl R s q fun x v h1 m1 G1 H1 _ _ _ R1 s1 r1 q1 => ?_
    have lay : ∀ (d : Addr) (u : HO) (d2 : Addr) (vs : List V) (ps : List PV), H1 d = none → upd H1 d u d2 = none → RelL X.K m1 h1.length G1 ps vs → Post X.K CT (Rel X.K) W σ m1 G1 h1.length Q (.ok (.ref h1.length) (h1 ++ [.lst ps])) → Q (.ref d2) (upd (upd H1 d u) d2 (.lst vs)) := by
      intro d u d2 vs ps hd hd2 rl q2
      have ne : d2 ≠ d := fun z => by rw [z, upd_same] at hd2; cases hd2
      have hd2' : H1 d2 = none := by rw [upd_ne ne] at hd2; exact hd2
      have R' := R1.new (p := d2) (o := .lst ps) (H' := upd (upd H1 d u) d2 (.lst vs)) hd2' (fun b hb => by
        rw [upd_ne fun z => hb (by rw [z]; exact hd2'), upd_ne fun z => hb (by rw [z]; exact hd)]) ⟨vs, by rw [upd_same], rl.mono mx_ex (Nat.le_succ _) Sub.refl⟩ rfl
      have rr : Rel X.K (mx m1 h1.length d2) (h1 ++ [PO.lst ps]).length G1 (.ref h1.length) (.ref (mx m1 h1.length d2 h1.length)) := .ref (by rw [List.length_append]; simp)
      rw [mx_new] at rr
      exact q2 _ G1 _ _ mx_ex Sub.refl R' rr
    by_cases hx : ∃ s, x = .str s
    · obtain ⟨s, rfl⟩ := hx
      simp only [bltV] at q1
      split at q1
      · rename_i few
        obtain rfl := r1.str_inv
        refine .inr ⟨s, rfl, few, fun d hd => .inr ⟨d, _, rfl, upd_same, Nat.lt_of_le_of_lt signs_len (by simp; omega), fun ys d2 hs2 hl2 hm2 hd2 => ?_⟩⟩
        rw [sorted_is hs2 hl2 hm2, List.map_map]
        exact lay d _ d2 _ _ hd hd2 (signs_rel (sortC s)) q1
      · exact q1.elim
    · have ex : bltV "sorted set" [x] h1 = match (lstOf x h1).bind intsOf with
        | some ns => if ns.length < 63 then .ok (.ref h1.length) (h1 ++ [.lst ((sortU ns).map .int)]) else .bad
        | none => .bad := by
        cases x with
        | str s => exact absurd ⟨s, rfl⟩ hx
        | _ =>
          simp only [bltV] <;> (cases (lstOf _ h1).bind intsOf <;> rfl)
      rw [ex] at q1
      split at q1
      · rename_i ns en
        split at q1
        · rename_i few
          obtain ⟨b, rfl, hb⟩ := ints_at R1 r1 en
          refine .inl ⟨b, ns, rfl, hb, few, fun d n le hd => .inl ⟨d, _, n, rfl, upd_same, by omega, fun ns' d2 ha hm hn hd2 => ?_⟩⟩
          have e1 : ns' = sortU ns := asc_mem ha (sortU_asc ns) fun k => by rw [hm k, sortU_mem, decide_eq_true_eq]
          rw [e1]
          exact lay d _ d2 _ _ hd hd2 (rel_ints _) q1
        · exact q1.elim
      · exact q1.elim
end
end Mi

set_option Elab.async false
set_option linter.all false
set_option maxRecDepth 100000
/-! Mi27: repr of data without texts. -/
namespace Mi
open PySem PySem.Spec PyProof.Rows L2
theorem join_S2 : ∀ ts : List (List Char), Str.join ", " (ts.map S2) = S2 (joinC ts)
  | [] => rfl
  | [x] => rfl
  | x :: y :: r => by
    have e : Str.join ", " ((x :: y :: r).map S2) = S2 x ++ (", " : Str) ++ Str.join ", " ((y :: r).map S2) := rfl
    rw [e, join_S2 (y :: r), S2_ofString, S2_app, S2_app]
    rw [joinC]
    congr 1
    rw [List.append_assoc]
    rfl
/-- sys.modules is a dict -/
def SysD (K : PySem.W.Frag) : Prop := ∃ o, K.lookup sysModules = some o ∧ o.cls = .type "dict"
def sysB (K : PySem.W.Frag) : Bool := match K.lookup sysModules with
  | some o => decide (o.cls = .type "dict")
  | none => false
theorem sysB_ok {K : PySem.W.Frag} (h : sysB K = true) : SysD K := by
  unfold sysB at h
  split at h
  · rename_i o e
    exact ⟨o, e, of_decide_eq_true h⟩
  · cases h
/-! ### texts that are shown as they are -/
theorem print_ascii : ∀ n : Nat, n < 127 → 32 ≤ n → Unicode.isPrintable n = true := by decide +kernel
theorem plain_char {c : Char} (h : plainC c = true) : Builtin.Str.reprChar 39 c.toNat = [c.toNat] := by
  unfold plainC at h
  simp only [Bool.and_eq_true, decide_eq_true_eq] at h
  obtain ⟨⟨⟨h1, h2⟩, h3⟩, h4⟩ := h
  have p := print_ascii _ h2 h1
  unfold Builtin.Str.reprChar
  rw [if_neg (by simp; omega), if_neg (by simp; omega), if_neg (by simp; omega), if_neg (by simp; omega), if_pos p]
theorem plain_fold : ∀ (l : List Char) (acc : Array Nat), l.all plainC = true → (l.map Char.toNat).foldl (fun out c => out ++ (Builtin.Str.reprChar 39 c).toArray) acc = acc ++ (l.map Char.toNat).toArray
  | [], acc, _ => by simp
  | c :: r, acc, h => by
    rw [List.all_cons, Bool.and_eq_true] at h
    rw [List.map_cons, List.foldl_cons, plain_char h.1, plain_fold r _ h.2]
    simp
theorem plain_text {s : List Char} (h : s.all plainC = true) : reprText (S2 s) = S2 ('\'' :: (s ++ ['\''])) := by
  have q : reprQuote (S2 s) = 39 := by
    unfold reprQuote
    have n : ((S2 s).cps.contains 39) = false := by
      rw [Bool.eq_false_iff]
      intro hc
      have hm : (39 : Nat) ∈ s.map Char.toNat := by simpa using hc
      obtain ⟨c, hc, e⟩ := List.mem_map.mp hm
      have hp := List.all_eq_true.mp h c hc
      unfold plainC at hp
      simp only [Bool.and_eq_true, decide_eq_true_eq] at hp
      exact hp.1.2 e
    rw [n]
    rfl
  unfold reprText
  rw [q, ← Array.foldl_toList]
  have e : (S2 s).cps.toList = s.map Char.toNat := by simp
  rw [e, plain_fold s _ h]
  unfold S2
  congr 1
  simp
/-! ### what is read and shown -/
theorem shw0_reads {K : PySem.W.Frag} {m : Nat → Addr} {N : Nat} {G : Hp} {hp : Heap} {x : PV} {v : V} {u : Value} {t : List Char} (r : Rel K m N G x v) (rv : L2.RelV v u) (e : shw0 x = some t) : ∃ d, Reads hp u d [] ∧ d.shown = S2 t ∧ d.showable = true ∧ d.depth = 0 := by
  unfold shw0 at e
  split at e
  · obtain rfl := r.non_inv
    cases (show u = Value.none from rv)
    injection e with e
    subst e
    exact ⟨_, .none, by simp only [PyData.shown]; rw [S2_ofString]; rfl, by simp [PyData.showable], by simp [PyData.depth]⟩
  · rename_i b
    obtain rfl := r.bl_inv
    cases (show u = Value.bool b from rv)
    injection e with e
    subst e
    exact ⟨_, .bool b, by simp only [PyData.shown]; rw [S2_ofString]; cases b <;> rfl, by simp [PyData.showable], by simp [PyData.depth]⟩
  · rename_i i
    obtain rfl := r.int_inv
    obtain ⟨tk, rfl⟩ := (show ∃ tk, u = Value.int i tk from rv)
    split at e
    · rename_i hl
      injection e with e
      subst e
      exact ⟨_, .int i tk, by simp only [PyData.shown]; rw [S2_ofString], by simp [PyData.showable, hl], by simp [PyData.depth]⟩
    · cases e
  · rename_i s
    obtain rfl := r.str_inv
    obtain ⟨tk, rfl⟩ := (show ∃ tk, u = Value.str (S2 s) tk from rv)
    split at e
    · rename_i hl
      injection e with e
      subst e
      exact ⟨_, .str (S2 s) tk, by simp only [PyData.shown]; exact plain_text hl, by simp [PyData.showable], by simp [PyData.depth]⟩
    · cases e
  · cases e
section
variable {X : Cx} {CT : Cts} {W : WX} {pins : List (Addr × Obj)} {σ : L2.St} {H : Hp} {s : Shared} {m : Nat → Addr} {G : Hp} {h : PH}
def Shd (X : Cx) (s : Shared) (u : Value) (t : List Char) (n : Nat) : Prop := ∃ d as, Reads s.heap u d as ∧ d.shown = S2 t ∧ d.showable = true ∧ d.depth ≤ n ∧ sysModules ∉ as
theorem shw_all {n : Nat} (ih : ∀ (x : PV) (v : V) (u : Value) (t : List Char), Rel X.K m h.length G x v → L2.RelV v u → shw h n x = some t → Shd X s u t n) :
    ∀ (xs : List PV) (vs : List V) (us : List Value) (ts : List (List Char)), RelL X.K m h.length G xs vs → Vals vs us → mapO (shw h n) xs = some ts → ∃ ds as, ReadsAll s.heap us ds as ∧ PyData.shownAll ds = ts.map S2 ∧ PyData.showableAll ds = true ∧ PyData.depthAll ds ≤ n ∧ sysModules ∉ as
  | [], _, _, ts, r, q, e => by
    cases r
    cases q
    have e' : ts = [] := by simpa [mapO] using e.symm
    subst e'
    exact ⟨[], [], .nil, by simp [PyData.shownAll], by simp [PyData.showableAll], by simp [PyData.depthAll], by simp⟩
  | x :: xs, _, _, ts, r, q, e => by
    cases r with
    | cons a r =>
      cases q with
      | cons b q =>
        rw [mapO] at e
        cases e1 : shw h n x with
        | none => rw [e1] at e; simp at e
        | some y =>
          rw [e1] at e
          cases e2 : mapO (shw h n) xs with
          | none => rw [e2] at e; simp at e
          | some ys =>
            rw [e2] at e
            have e' : ts = y :: ys := by simpa using e.symm
            subst e'
            obtain ⟨d, as, p1, p2, p3, p4, p5⟩ := ih _ _ _ _ a b e1
            obtain ⟨ds, bs, q1, q2, q3, q4, q5⟩ := shw_all ih xs _ _ ys r q e2
            refine ⟨d :: ds, as ++ bs, .cons p1 q1, by simp [PyData.shownAll, p2, q2], by simp [PyData.showableAll, p3, q3], ?_, by simp [p5, q5]⟩
            simp only [PyData.depthAll]
            omega
theorem shown_lst {ds : List PyData} {ts : List (List Char)} (e : PyData.shownAll ds = ts.map S2) : (PyData.list ds).shown = S2 (lstC ts) := by
  simp only [PyData.shown]
  rw [e, listText_eq_join, join_S2, S2_ofString, S2_ofString, S2_app, S2_app]
  rfl
theorem shown_tup {ds : List PyData} {ts : List (List Char)} (e : PyData.shownAll ds = ts.map S2) : (PyData.tuple ds).shown = S2 (tupC ts) := by
  simp only [PyData.shown]
  rw [e]
  unfold tupleText
  rw [join_S2, List.length_map, S2_ofString, S2_ofString, S2_app, S2_app]
  unfold tupC
  by_cases hl : ts.length = 1
  · rw [if_pos hl, if_pos (by simpa using hl)]
    rfl
  · rw [if_neg hl, if_neg (by simpa using hl)]
    rfl
theorem list_far (I : Inv X pins σ H s) (S : SysD X.K) {a : Addr} {o : Obj} (e : s.heap.get? a = some o) (hc : o.cls = .type "list") : a ≠ sysModules := by
  rintro rfl
  obtain ⟨o', h1, h2⟩ := S
  have q := I.kIn _ _ h1
  rw [q] at e
  injection e with e
  subst e
  rw [h2] at hc
  injection hc with hc
  revert hc
  decide
theorem shw_reads (I : Inv X pins σ H s) (S : SysD X.K) (R : HR X.K CT m G H h) : ∀ (n : Nat) (x : PV) (v : V) (u : Value) (t : List Char), Rel X.K m h.length G x v → L2.RelV v u → shw h n x = some t → Shd X s u t n
  | 0, x, v, u, t, r, rv, e => by
    obtain ⟨d, h1, h2, h3, h4⟩ := shw0_reads (hp := s.heap) r rv e
    exact ⟨d, [], h1, h2, h3, by omega, by simp⟩
  | n + 1, x, v, u, t, r, rv, e => by
    have lists : ∀ {a : Addr} {xs : List PV} {vs : List V}, v = .ref a → SqL X.K H a vs → RelL X.K m h.length G xs vs → (mapO (shw h n) xs).map lstC = some t → Shd X s u t (n + 1) := by
      intro a xs vs ev hs rl e
      subst ev
      cases (show u = Value.ref a from rv)
      cases e1 : mapO (shw h n) xs with
      | none => rw [e1] at e; simp at e
      | some ts =>
        rw [e1] at e
        have e' : t = lstC ts := by simpa using e.symm
        subst e'
        obtain ⟨its, rvs, ⟨o, k, ho, hc, _, hd⟩, _⟩ := I.list hs
        obtain ⟨ds, as, q1, q2, q3, q4, q5⟩ := shw_all (shw_reads I S R n) xs vs its ts rl rvs e1
        refine ⟨.list ds, a :: as, .list ho hc hd q1, shown_lst q2, by simpa [PyData.showable] using q3, ?_, ?_⟩
        · simp only [PyData.depth]; omega
        · simp only [List.mem_cons, not_or]
          exact ⟨(list_far I S ho hc).symm, q5⟩
    simp only [shw] at e
    split at e
    · rename_i xs
      obtain ⟨a, vs, rfl, hs, rl⟩ := r.tup_inv
      cases (show u = Value.ref a from rv)
      cases e1 : mapO (shw h n) xs with
      | none => rw [e1] at e; simp at e
      | some ts =>
        rw [e1] at e
        have e' : t = tupC ts := by simpa using e.symm
        subst e'
        obtain ⟨its, rvs, ⟨o, ho, hc, k, hd⟩, _⟩ := I.tuple (R.sub.sqT hs)
        obtain ⟨ds, as, q1, q2, q3, q4, q5⟩ := shw_all (shw_reads I S R n) xs vs its ts rl rvs e1
        exact ⟨.tuple ds, as, .tuple ho hc hd q1, shown_tup q2, by simpa [PyData.showable] using q3, by simp only [PyData.depth]; omega, q5⟩
    · obtain ⟨rfl, _⟩ := r.ref_inv
      split at e
      · rename_i xs ek
        obtain ⟨vs, hH, rl⟩ := R.lst ek
        exact lists rfl (.of hH) rl e
      · rename_i xs ek
        obtain ⟨vs, hH, rl⟩ := R.frz ek
        exact lists rfl hH rl e
      · rename_i ek
        obtain ⟨ks, hH, rd⟩ := R.dic ek
        cases (show u = Value.ref _ from rv)
        cases ks with
        | cons k ks => exact rd.elim
        | nil =>
          injection e with e
          subst e
          obtain ⟨_, hlo, vs, rk, o, es, ep, h1, h2, h3, h4⟩ := I.hok _ _ hH
          cases rk
          have ez : es.toList = [] := by
            have q := h4.2.1
            revert q
            generalize es.toList = l
            intro q
            cases l with
            | nil => rfl
            | cons e r => first | cases q | exact q.elim | (simp [Pairs] at q)
          have far := beq_eq_false_iff_ne.mp hlo
          have rd0 : Reads s.heap (.ref _) (.dict []) (_ :: ([] ++ [])) := .dict (as := []) (bs := []) h1 h2.1 h3 (by rw [ez]; exact .nil) (by rw [ez]; exact .nil)
          refine ⟨.dict [], _, rd0, ?_, by simp [PyData.showable, PyData.showableKv], by simp [PyData.depth, PyData.depthKv], ?_⟩
          · simp only [PyData.shown, PyData.shownKv]
            decide +kernel
          · simp only [List.append_nil, List.mem_cons, List.not_mem_nil, or_false]
            exact fun z => far z.symm
      · cases e
    · obtain ⟨d, h1, h2, h3, h4⟩ := shw0_reads (hp := s.heap) r rv e
      exact ⟨d, [], h1, h2, h3, by omega, by simp⟩
end
section
variable {X : Cx} {CT : Cts} {W : WX}
theorem call_repr_b (S : SysD X.K) (hu : X.A.units + 65 < cLine) (hg : X.A.guards = some []) : CallR X (.builtin "repr") (rBl X.K CT W "repr") := by
  rintro pins s σ H xs us Q I r ⟨m, G, h, pvs, σ0, R, rl, q⟩
  simp only [bltV] at q
  split at q
  · rename_i v
    obtain ⟨u, rfl, ru⟩ := rl.one_inv
    obtain ⟨w, rfl, rw'⟩ := vals1 r
    split at q
    · rename_i t et
      split at q
      · rename_i hl
        obtain ⟨pd, as, rd, e1, e2, hd, hn⟩ := shw_reads I S R 60 v u w t ru rw' et
        have fin : ∀ (x : Str) (tk : Tok), x = S2 t → L2.RelV (.str (S2 t)) (.str x tk) := fun x tk e => ⟨tk, by rw [e]⟩
        have qq : Q (.str (S2 t)) H := Post.now q R (.str t)
        have hz : pd.shown.length ≤ sizeLine := by rw [e1, S2_len, ← szl_eq]; exact hl
        cases rd with
        | list a1 a2 a3 a4 => exact repr_of_reads' (.list a1 a2 a3 a4) e2 (fun _ => hn) hg (by omega) (fun b o e => e) (fun h' tk0 tk kp => ⟨.str (S2 t), H, I.kept kp, fin _ _ e1, qq⟩) hz
        | tuple a1 a2 a3 a4 => exact repr_of_reads' (.tuple a1 a2 a3 a4) e2 (fun _ => hn) hg (by omega) (fun b o e => e) (fun h' tk0 tk kp => ⟨.str (S2 t), H, I.kept kp, fin _ _ e1, qq⟩) hz
        | dict a1 a2 a3 a4 a5 => exact repr_of_reads' (.dict a1 a2 a3 a4 a5) e2 (fun _ => hn) hg (by omega) (fun b o e => e) (fun h' tk0 tk kp => ⟨.str (S2 t), H, I.kept kp, fin _ _ e1, qq⟩) hz
        | none =>
          simp only [PyData.shown] at e1
          exact P.repr_of_none ⟨.str (S2 t), H, I.tok _, fin _ _ e1, qq⟩
        | bool y =>
          simp only [PyData.shown] at e1
          exact P.repr_of_bool ⟨.str (S2 t), H, I.tok _, fin _ _ (by rw [← e1]), qq⟩
        | int i tk =>
          simp only [PyData.shown] at e1
          exact P.repr_of_int (by simpa [PyData.showable] using e2) ⟨.str (S2 t), H, I.tok _, fin _ _ e1, qq⟩
        | str y tk =>
          simp only [PyData.shown] at e1
          exact P.repr_of_str ⟨.str (S2 t), H, I.tok _, fin _ _ e1, qq⟩ (by rw [e1, S2_len, ← szl_eq]; exact hl)
      · exact q.elim
    · exact q.elim
  · exact q.elim
end
end Mi

set_option Elab.async false
set_option linter.all false
set_option maxRecDepth 100000
/-! Mo1: methods of lists, of texts, of dicts. -/
namespace Mi
open PySem PySem.Spec PyProof.Rows L2
section
variable {X : Cx} {CT : Cts} {cl : Cl} {W : WX} {o e : Expr} {es : List Expr} {c : E} {cs : List E} {pos apos cpos : Pos}
/-- a method by values -/
def rMv (K : PySem.W.Frag) (CT : Cts) (W : WX) (f : PV → List PV → PH → R PV) : V → List V → Hp → VK → Prop := fun x vs H Q => ∃ mm G h px pvs σ, HR K CT mm G H h ∧ Rel K mm h.length G px x ∧ RelL K mm h.length G pvs vs ∧ Post K CT (Rel K) W σ mm G h.length Q (f px pvs h)
theorem MtR.imp {id : String} {r r' : V → List V → Hp → VK → Prop} (h : MtR X id r) (i : ∀ x vs H Q, r' x vs H Q → r x vs H Q) : MtR X id r' := fun pins s σ H x xs v us Q I rx rs q => h pins s σ H x xs v us Q I rx rs (i x xs H Q q)
theorem MtR.or {id : String} {r r' : V → List V → Hp → VK → Prop} (h : MtR X id r) (g : MtR X id r') : MtR X id (fun x vs H Q => r x vs H Q ∨ r' x vs H Q) := fun pins s σ H x xs v us Q I rx rs q => q.elim (h pins s σ H x xs v us Q I rx rs) (g pins s σ H x xs v us Q I rx rs)
/-- what such a method is asked of, in the layer -/
def TyM (K : PySem.W.Frag) (CT : Cts) (m T : String) : Prop := ∀ (x : PV) (v : V) (mm : Nat → Addr) (G H : Hp) (h : PH), mok m x h = true → HR K CT mm G H h → Rel K mm h.length G x v → tyV K T v H
theorem isL_inv {x : PV} {h : PH} (e : isL x h = true) : ∃ n xs, x = .ref n ∧ h[n]? = some (.lst xs) := by
  unfold isL at e
  split at e
  · split at e
    · exact ⟨_, _, rfl, by assumption⟩
    · cases e
  · cases e
theorem isD_inv {x : PV} {h : PH} (e : isD x h = true) : ∃ n xs, x = .ref n ∧ h[n]? = some (.dic xs) := by
  unfold isD at e
  split at e
  · split at e
    · exact ⟨_, _, rfl, by assumption⟩
    · cases e
  · cases e
theorem isS_inv {x : PV} (e : isS x = true) : ∃ s, x = .str s := by
  unfold isS at e
  split at e
  · exact ⟨_, rfl⟩
  · cases e
theorem tyM_list {K : PySem.W.Frag} {m : String} (hm : ∀ x h, mok m x h = isL x h) : TyM K CT m "list" := fun x v mm G H h ok R r => by
  rw [hm] at ok
  obtain ⟨n, xs, rfl, e⟩ := isL_inv ok
  obtain ⟨rfl, _⟩ := r.ref_inv
  obtain ⟨vs, hH, _⟩ := R.lst e
  exact .inl ⟨rfl, _, .of hH⟩
theorem tyM_str {K : PySem.W.Frag} {m : String} (hm : ∀ x h, mok m x h = isS x) : TyM K CT m "str" := fun x v mm G H h ok R r => by
  rw [hm] at ok
  obtain ⟨s, rfl⟩ := isS_inv ok
  obtain rfl := r.str_inv
  rfl
theorem I_mth {m T id : String} {name : Str} (hcl : GroC cl) (pa : PlainAttrs T) (slot : Slot T name id) (hty : typeOf (.builtin id) = pure (.type "method_descriptor")) (hm : MtR X id (rMv X.K CT W (mthV m))) (ty : TyM X.K CT m T) (ho : PE X o (tE X.K CT cl W c)) (ha : PA X (e :: es) (tA X.K CT cl W cs))
    (hbase : attributeBase o name X.env (eval o X.env) = eval o X.env)
    (hfew : ((backTo cpos (starEach (e :: es) X.env)).all (fun x => !x.1) && (backToKw cpos (keywordEach [] X.env)).all (fun x => x.1.isSome) && decide ((e :: es).length + ([] : List Keyword).length + (if ([] : List Keyword).isEmpty then 0 else 1) < 30)) = true)
    (hline : (apos.endLine == cpos.line) = true) (hs : starEach (e :: es) X.env = (false, eval e X.env) :: starEach es X.env) (hplain : (backTo cpos (starEach es X.env)).any (·.1) = false) :
    PE X (.Call (.Attribute o name apos) (e :: es) [] cpos) (tE X.K CT cl W (.mth m c cs)) :=
  PEimp (pe_bm pa slot hty hm ho ha hbase hfew hline hs hplain) fun σ H Q ⟨mm, G, h, ρ, R, s, q⟩ => by
    simp only [ev] at q
    refine tE_first hcl R s q fun x v h1 m1 G1 H1 _ _ _ R1 s1 r1 q1 => ?_
    split at q1
    · rename_i ok
      refine ⟨ty x v m1 G1 H1 h1 ok R1 r1, tA_first hcl R1 s1 q1 fun xs vs h2 m2 G2 H2 x2 g2 l2 R2 s2 r2 q2 => ⟨m2, G2, h2, x, xs, σ, R2, r1.mono x2 l2 g2, r2, q2⟩⟩
    · exact q1.elim
theorem I_mth0 {m T id : String} {name : Str} (hcl : GroC cl) (pa : PlainAttrs T) (slot : Slot T name id) (hty : typeOf (.builtin id) = pure (.type "method_descriptor")) (hm : MtR X id (rMv X.K CT W (mthV m))) (ty : TyM X.K CT m T) (ho : PE X o (tE X.K CT cl W c))
    (hbase : attributeBase o name X.env (eval o X.env) = eval o X.env) (hline : (apos.endLine == cpos.line) = true) :
    PE X (.Call (.Attribute o name apos) [] [] cpos) (tE X.K CT cl W (.mth m c [])) :=
  PEimp (pe_bm0 pa slot hty hm ho hbase hline) fun σ H Q ⟨mm, G, h, ρ, R, s, q⟩ => by
    simp only [ev] at q
    refine tE_first hcl R s q fun x v h1 m1 G1 H1 _ _ _ R1 s1 r1 q1 => ?_
    split at q1
    · rename_i ok
      simp only [evs, bind_ok] at q1
      exact ⟨ty x v m1 G1 H1 h1 ok R1 r1, m1, G1, h1, x, [], σ, R1, r1, .nil, q1⟩
    · exact q1.elim
theorem Post.putV {K : PySem.W.Frag} {a : PV} {b : V} {Q : VK} {σ : L2.St} {mm : Nat → Addr} {G H : Hp} {h : PH} {n : Nat} {o o' : PO} {u : HO} (q : Post K CT (Rel K) W σ mm G h.length Q (.ok a (h.set n o'))) (R : HR K CT mm G H h) (e : h[n]? = some o) (k : nk o = true) (k' : nk o' = true)
    (w : ∀ H', H' (mm n) = some u → OR K CT mm h.length G H' (mm n) o') (r : Rel K mm h.length G a b) : Q b (upd H (mm n) u) := q mm G _ b Ex.refl Sub.refl (R.put e k k' w) (by rw [List.length_set]; exact r)
theorem RelL.snoc {K : PySem.W.Frag} {m : Nat → Addr} {N : Nat} {G : Hp} {xs : List PV} {vs : List V} {x : PV} {v : V} (a : RelL K m N G xs vs) (b : Rel K m N G x v) : RelL K m N G (xs ++ [x]) (vs ++ [v]) := a.append (.cons b .nil)
theorem RelL.dropLast {K : PySem.W.Frag} {m : Nat → Addr} {N : Nat} {G : Hp} : ∀ {xs : List PV} {vs : List V}, RelL K m N G xs vs → RelL K m N G xs.dropLast vs.dropLast
  | _, _, .nil => .nil
  | _, _, .cons a .nil => .nil
  | _, _, .cons a (.cons b r) => .cons a (RelL.dropLast (.cons b r))
theorem RelL.nil_inv {K : PySem.W.Frag} {m : Nat → Addr} {N : Nat} {G : Hp} {vs : List V} (r : RelL K m N G [] vs) : vs = [] := by cases r; rfl
theorem mt_append_b : MtR X "list.append" (rMv X.K CT W (mthV "append")) := by
  refine MtR.imp mt_append fun x vs H Q ⟨mm, G, h, px, pvs, σ, R, rx, rl, q⟩ => ?_
  have q : Post X.K CT (Rel X.K) W σ mm G h.length Q (appV px pvs h) := q
  unfold appV at q
  split at q
  · rename_i n y
    obtain ⟨rfl, hn⟩ := rx.ref_inv
    obtain ⟨v, rfl, rv⟩ := rl.one_inv
    split at q
    · rename_i xs ek
      obtain ⟨vs0, hH, r0⟩ := R.lst ek
      split at q
      · rename_i few
        exact ⟨_, vs0, v, rfl, rfl, hH, by rw [← r0.length, ← szl_eq]; exact few, Post.putV (u := .lst (vs0 ++ [v])) q R ek rfl rfl (fun H' e' => ⟨_, e', r0.snoc rv⟩) .non⟩
      · exact q.elim
    · exact q.elim
  · exact q.elim
theorem mt_extend_b : MtR X "list.extend" (rMv X.K CT W (mthV "extend")) := by
  refine MtR.imp mt_extend fun x vs H Q ⟨mm, G, h, px, pvs, σ, R, rx, rl, q⟩ => ?_
  have q : Post X.K CT (Rel X.K) W σ mm G h.length Q (extV px pvs h) := q
  unfold extV at q
  split at q
  · rename_i n k
    obtain ⟨rfl, hn⟩ := rx.ref_inv
    obtain ⟨v, rfl, rv⟩ := rl.one_inv
    obtain ⟨rfl, hk⟩ := rv.ref_inv
    split at q
    · rename_i xs ys ek ek2
      obtain ⟨vs0, hH, r0⟩ := R.lst ek
      obtain ⟨vs1, hH1, r1⟩ := R.lst ek2
      split at q
      · rename_i few
        exact ⟨_, _, vs0, vs1, rfl, rfl, hH, hH1, by rw [← r0.length, ← r1.length, ← szl_eq]; exact few, Post.putV (u := .lst (vs0 ++ vs1)) q R ek rfl rfl (fun H' e' => ⟨_, e', r0.append r1⟩) .non⟩
      · exact q.elim
    · exact q.elim
  · exact q.elim
theorem mt_pop_b : MtR X "list.pop" (rMv X.K CT W (mthV "pop")) := by
  refine MtR.imp (MtR.or mt_pop mt_popAt) fun x vs H Q ⟨mm, G, h, px, pvs, σ, R, rx, rl, q⟩ => ?_
  have q : Post X.K CT (Rel X.K) W σ mm G h.length Q (popV px pvs h) := q
  unfold popV at q
  split at q
  · rename_i n
    obtain ⟨rfl, hn⟩ := rx.ref_inv
    obtain rfl := rl.nil_inv
    split at q
    · rename_i xs ek
      obtain ⟨vs0, hH, r0⟩ := R.lst ek
      split at q
      · rename_i y ey
        obtain ⟨v, ev, rv⟩ := r0.get ey
        rw [r0.length] at ev
        exact .inl ⟨_, vs0, v, rfl, rfl, hH, ev, Post.putV (u := .lst vs0.dropLast) q R ek rfl rfl (fun H' e' => ⟨_, e', r0.dropLast⟩) rv⟩
      · exact q.elim
    · exact q.elim
  · rename_i n i
    obtain ⟨rfl, hn⟩ := rx.ref_inv
    obtain ⟨v, rfl, rv⟩ := rl.one_inv
    obtain rfl := rv.int_inv
    split at q
    · rename_i xs ek
      obtain ⟨vs0, hH, r0⟩ := R.lst ek
      split at q
      · rename_i hi
        subst hi
        split at q
        · rename_i y r
          cases r0 with
          | @cons _ w _ ws a b =>
            exact .inr ⟨_, w :: ws, 0, 0, w, rfl, rfl, hH, by decide, by decide, by simp [seqIndex?], rfl, Post.putV (u := .lst ws) q R ek rfl rfl (fun H' e' => ⟨_, e', b⟩) a⟩
        · exact q.elim
      · exact q.elim
    · exact q.elim
  · exact q.elim
end
end Mi

set_option Elab.async false
set_option linter.all false
set_option maxRecDepth 100000
/-! Mo2: t[::-1] of a tuple. -/
namespace Mi
open PySem PySem.Spec PyProof.Rows L2
theorem fm_congr {α β : Type} {f g : α → Option β} : ∀ {l : List α}, (∀ x ∈ l, f x = g x) → l.filterMap f = l.filterMap g
  | [], _ => rfl
  | a :: r, h => by
    rw [List.filterMap_cons, List.filterMap_cons, h a (by simp), fm_congr fun x hx => h x (List.mem_cons_of_mem _ hx)]
theorem rev_pick (xs : Array Value) : ((List.range xs.size).filterMap fun (k : Nat) => xs[((xs.size : Int) - 1 + (k : Int) * (-1)).toNat]?).toArray = xs.toList.reverse.toArray := by
  congr 1
  have e : ∀ k ∈ List.range xs.size, (xs[((xs.size : Int) - 1 + (k : Int) * (-1)).toNat]?) = xs.toList.reverse[k]? := by
    intro k hk
    have hk : k < xs.size := List.mem_range.mp hk
    have h1 : ((xs.size : Int) - 1 + (k : Int) * (-1)).toNat = xs.size - 1 - k := by omega
    rw [h1, List.getElem?_reverse (by simpa using hk)]
    simp
  have e2 : ((List.range xs.size).filterMap fun (k : Nat) => xs[((xs.size : Int) - 1 + (k : Int) * (-1)).toNat]?) = (List.range xs.size).filterMap fun k => xs.toList.reverse[k]? := by
    exact fm_congr e
  rw [e2]
  have gen : ∀ (l : List Value), (List.range l.length).filterMap (fun k => l[k]?) = l := by
    intro l
    induction l with
    | nil => rfl
    | cons a r ih =>
      rw [List.length_cons, List.range_succ_eq_map, List.filterMap_cons]
      simp only [List.getElem?_cons_zero, List.filterMap_map]
      have : ((fun k => (a :: r)[k]?) ∘ Nat.succ) = fun k => r[k]? := by
        funext k
        simp
      rw [this, ih]
  have := gen xs.toList.reverse
  simpa using this
section
variable {P : Program} {w : World} {A : Around} {Er : Value → Shared → Prop} {z : Shared}
theorem applied_rev {sl : Addr} {n : Nat} {t : Tok} {Q : Int × Int × Nat → Shared → Prop} (hs : z.heap.IsSliceOf sl .none .none (.int (-1) t)) (h : Q ((n : Int) - 1, -1, n) z) : wpAny (model P w) A (Builtin.Slice.sliceApplied (.ref sl) (pure (n : Int))) Q Er z := by
  obtain ⟨os, o1, o2, o3⟩ := id hs
  unfold Builtin.Slice.sliceApplied Builtin.Slice.sliceFields
  refine wpAny_bind (wpAny_bind (wpAny_field o1 o3 (x := .none) rfl (wpAny_bind (wpAny_field o1 o3 (x := .none) rfl (wpAny_bind (wpAny_field o1 o3 (x := .int (-1) t) rfl (wpAny_pure ?_)))))))
  refine wpAny_bind (slicePart_int ?_)
  show wpAny _ _ (if ((-1 : Int) == 0) = true then _ else _) _ _ z
  rw [if_neg (by decide)]
  refine wpAny_bind (slicePart_none (wpAny_bind (slicePart_none (wpAny_bind (wpAny_pure ?_)))))
  show wpAny _ _ (pure ((n : Int) - 1, (-1 : Int), Builtin.Slice.slicePlaces ((n : Int) - 1) (-1) (-1))) _ _ z
  have e : Builtin.Slice.slicePlaces ((n : Int) - 1) (-1) (-1) = n := by
    unfold Builtin.Slice.slicePlaces
    rw [if_neg (by decide)]
    have e1 : ((n : Int) - 1 - -1 - 1) / - -1 + 1 = n := by
      have : (- -1 : Int) = 1 := rfl
      rw [this, Int.ediv_one]
      omega
    split
    · rw [e1]
      omega
    · omega
  rw [e]
  exact wpAny_pure h
theorem getItem_rev {t sl : Addr} {xs : Array Value} {tk : Tok} {Q : Value → Shared → Prop} (ht : IsTup z.heap t xs) (hs : z.heap.IsSliceOf sl .none .none (.int (-1) tk)) (few : xs.size ≤ sizeLine)
    (h : Q (.ref z.heap.objs.size) { z with heap := z.heap.push { cls := .type "tuple", data := .seq xs.toList.reverse.toArray } }) : wpAny (model P w) A (getItem (.ref t) (.ref sl)) Q Er z := by
  have sz : sizeOk (.seq xs.toList.reverse.toArray) := by
    show xs.toList.reverse.toArray.size ≤ sizeLine
    simpa using few
  obtain ⟨os, o1, o2, o3⟩ := id hs
  have ts : z.TypeIs (.ref sl) "slice" := ⟨os, o1, o2⟩
  unfold getItem
  try with_reducible refine wpAny_holding ?_
  first | refine wpAny_bind (wpAny_pure ?_) | skip
  refine wpAny_bind (wpAny_sequenceKey ht.typeIs (by decide) ?_)
  refine wpAny_bind (wpAny_callSpecial?_slot (name := Str.ofString "__getitem__") ht.typeIs PyProof.Rows.slot_tuple_getitem (wpAny_call_entry PyProof.Rows.slot_tuple_getitem ht.typeIs entry_tuple_getitem ?_ (args_tuple_getitem _ _)))
  show wpAny _ _ (Builtin.Tuple.tupleItemsOf (.ref t) >>= _) _ _ z
  refine wpAny_bind (tupleItemsOf_ ht (wpAny_bind (wpAny_typeOf ts ?_)))
  rw [if_pos (by decide)]
  refine wpAny_bind (applied_rev hs ?_)
  show wpAny _ _ (if (((xs.size : Int) - 1 == 0) && ((-1 : Int) == 1) && (xs.size == xs.size)) = true then _ else _) _ _ z
  rw [if_neg (by simp), rev_pick]
  first
    | exact wpAny_bind (m := Builtin.Tuple.tupleExact _) (wpAny_newObj_type (wpAny_pure ⟨_, rfl, wpAny_pure h⟩) sz)
    | exact wpAny_bind (m := Builtin.Tuple.tupleExact _) (wpAny_newObj_type (wpAny_bind (wpAny_pure (wpAny_pure ⟨_, rfl, wpAny_pure h⟩))) sz)
    | exact wpAny_bind (wpAny_bind (m := Builtin.Tuple.tupleExact _) (wpAny_newObj_type (wpAny_pure (wpAny_pure ⟨_, rfl, wpAny_pure h⟩)) sz))
    | exact wpAny_bind (wpAny_bind (m := Builtin.Tuple.tupleExact _) (wpAny_newObj_type (wpAny_pure ⟨_, rfl, wpAny_pure h⟩) sz))
end
section
variable {X : Cx} {CT : Cts} {cl : Cl} {W : WX} {e1 : Expr} {c1 : E} {pos : Pos}
def tRevT (K : PySem.W.Frag) (te : TE) : TE := fun σ H Q => te σ H fun x H1 => ∃ a xs, x = .ref a ∧ SqT K H1 a xs ∧ ∀ p, H1 p = none → Q (.ref p) (upd H1 p (.tup xs.reverse))
theorem pe_revT {te : TE} {k : Nat} {p1 p2 p3 : Pos} (he : PE X e1 te) : PE X (.Subscript e1 (.Slice none none (some (.UnaryOp .USub (.Constant (.int 1) k p1) p2)) p3) pos) (tRevT X.K te) := by
  refine ⟨fun pins s σ H Q I hh => Subscript_ (thn (he.run pins s σ H _ I hh) fun v s1 ⟨x, H1, I1, r1, a, xs, ex, hx, q⟩ => ?_)⟩
  subst ex
  cases r1
  have st : L2.PO X (some (.UnaryOp .USub (.Constant (.int 1) k p1) p2)) (tPart (tUn (rU fun i => .int (-i)) (tC (.int 1)))) := po_some (pe_un un_neg pe_int)
  refine wpAny_Slice (thn (po_none.run pins s1 σ H1 (fun o H2 => o = none ∧ H2 = H1) I1 ⟨rfl, rfl⟩) fun vl s2 ⟨l, H2, I2, pl, el, z2⟩ => ?_)
  subst el z2
  refine thn (po_none.run pins s2 σ H2 (fun o H3 => o = none ∧ H3 = H2) I2 ⟨rfl, rfl⟩) fun vu s3 ⟨u, H3, I3, pu, eu, z3⟩ => ?_
  subst eu z3
  refine thn (st.run pins s3 σ H3 (fun o H4 => o = some (-1) ∧ H4 = H3) I3 ⟨1, rfl, -1, rfl, rfl, rfl⟩) fun vs s4 ⟨o, H4, I4, ps, eo, z4⟩ => ?_
  subst eo z4
  cases pl
  cases pu
  cases ps with
  | int _ tk =>
  have I5 : Inv X pins σ H4 { s4 with heap := s4.heap.push { cls := .type "slice", data := .fields #[.none, .none, .int (-1) tk] } } := I4.kept (t' := s4.toks) fun b ob q => Heap.get?_push_of_some _ q
  obtain ⟨its, r, ht, hz⟩ := I5.tuple hx
  have hl := r.length
  refine tail_any (ops := [.ref a, .ref s4.heap.objs.size]) ht.typeIs (PyProof.Rows.slot_tuple_getitem.lookup) ?_ (by with_unfolding_all rfl)
  refine getItem_rev ht (Heap.IsSliceOf.new _ .none .none (.int (-1) tk)) (by rw [List.size_toArray]; omega) ?_
  refine ⟨.ref _, _, I5.laid (t' := s4.toks) (o := .tup xs.reverse) (fun b ob q => Heap.get?_push_of_some _ q) (Nat.le_refl _) ?_, rfl, q _ (I5.hok.fresh (Nat.le_refl _))⟩
  exact ⟨by rw [List.length_reverse]; exact hz, _, r.reverse, IsTup.new _ _⟩
theorem RelL.rev {K : PySem.W.Frag} {m : Nat → Addr} {N : Nat} {G : Hp} : ∀ {xs : List PV} {vs : List V}, RelL K m N G xs vs → RelL K m N G xs.reverse vs.reverse
  | _, _, .nil => .nil
  | _, _, .cons a r => by
    rw [List.reverse_cons, List.reverse_cons]
    exact (RelL.rev r).append (.cons a .nil)
theorem I_rev {k : Nat} {p1 p2 p3 : Pos} (hcl : GroC cl) (h1 : PE X e1 (tE X.K CT cl W c1)) : PE X (.Subscript e1 (.Slice none none (some (.UnaryOp .USub (.Constant (.int 1) k p1) p2)) p3) pos) (tE X.K CT cl W (.rev c1)) :=
  PEimp (pe_revT h1) fun σ H Q ⟨m, G, h, ρ, R, s, q⟩ => by
    simp only [ev] at q
    refine tE_first hcl R s q fun x v h1 m1 G1 H1 _ _ _ R1 s1 r1 q1 => ?_
    split at q1
    · obtain ⟨a, vs, rfl, hs, rl⟩ := r1.tup_inv
      exact ⟨a, vs, rfl, R1.sub.sqT hs, fun p hp => Post.newT q1 R1 rl.rev hp⟩
    · exact q1.elim
end
end Mi

set_option Elab.async false
set_option linter.all false
set_option maxRecDepth 100000
/-! Mo3: written tuples and dicts of the top, calls by keywords. -/
namespace Mi
open PySem PySem.Spec PyProof.Rows L2
/-! ### a written value -/
mutual
def kvB (K : PySem.W.Frag) : Nat → PV → Value → Bool
  | 0, _, _ => false
  | n + 1, x, u => match x, u with
    | .non, .none => true
    | .bl b, .bool c => b == c
    | .int i, .int j _ => decide (i = j)
    | .str s, .str y _ => decide (y = S2 s)
    | .tup xs, .ref a => match K.lookup a with
      | some o => match o.data with
        | .seq its _ => decide (o.cls = .type "tuple") && decide (its.size ≤ sizeLine) && kvBs K n xs its.toList
        | _ => false
      | none => false
    | _, _ => false
def kvBs (K : PySem.W.Frag) : Nat → List PV → List Value → Bool
  | _, [], [] => true
  | 0, _, _ => false
  | n + 1, x :: r, u :: t => kvB K n x u && kvBs K n r t
  | _, _, _ => false
end
mutual
theorem kvB_ok {K : PySem.W.Frag} : ∀ {n : Nat} {x : PV} {u : Value}, kvB K n x u = true → ∃ v, L2.RelV v u ∧ ∀ m N G, Rel K m N G x v
  | 0, _, _, h => by simp [kvB] at h
  | n + 1, x, u, h => by
    unfold kvB at h
    split at h
    · exact ⟨.non, rfl, fun _ _ _ => .non⟩
    · exact ⟨.bl _, by rw [eq_of_beq h]; rfl, fun _ _ _ => .bl _⟩
    · rw [of_decide_eq_true h]
      exact ⟨.int _, ⟨_, rfl⟩, fun _ _ _ => .int _⟩
    · rw [of_decide_eq_true h]
      exact ⟨.str _, ⟨_, rfl⟩, fun _ _ _ => .str _⟩
    · split at h
      · rename_i a _ o ho
        split at h
        · rename_i its k hd
          simp only [Bool.and_eq_true, decide_eq_true_eq] at h
          obtain ⟨⟨h1, h2⟩, h3⟩ := h
          obtain ⟨vs, r, q⟩ := kvBs_ok h3
          exact ⟨.ref a, rfl, fun m N G => .tup (.inr ⟨o, its, k, ho, h1, hd, h2, r⟩) (q m N G)⟩
        · cases h
      · cases h
    · cases h
theorem kvBs_ok {K : PySem.W.Frag} : ∀ {n : Nat} {xs : List PV} {us : List Value}, kvBs K n xs us = true → ∃ vs, Vals vs us ∧ ∀ m N G, RelL K m N G xs vs
  | n, [], [], _ => ⟨[], .nil, fun _ _ _ => .nil⟩
  | 0, _ :: _, _, h => by simp [kvBs] at h
  | 0, [], _ :: _, h => by simp [kvBs] at h
  | n + 1, [], _ :: _, h => by simp [kvBs] at h
  | n + 1, _ :: _, [], h => by simp [kvBs] at h
  | n + 1, x :: r, u :: t, h => by
    rw [kvBs, Bool.and_eq_true] at h
    obtain ⟨v, r1, q1⟩ := kvB_ok h.1
    obtain ⟨vs, r2, q2⟩ := kvBs_ok h.2
    exact ⟨v :: vs, .cons r1 r2, fun m N G => .cons (q1 m N G) (q2 m N G)⟩
end
/-! ### a written dict with text keys -/
def gdEs (K : PySem.W.Frag) : List DictEntry → List (PV × PV) → Bool
  | [], [] => true
  | e :: r, (.str k, v) :: t => match e.key with
    | .str x _ => decide (x = S2 k) && kvB K 50 v e.val && gdEs K r t
    | _ => false
  | _, _ => false
def gdB (K : PySem.W.Frag) (a : Addr) (kvs : List (PV × PV)) : Bool := match K.lookup a with
  | some ⟨_, _, .dict es _, _⟩ => gdEs K es.toList kvs
  | _ => false
/-- what a key finds -/
def Fnd (K : PySem.W.Frag) (s : List Char) (kvs : List (PV × PV)) (r : Option (Option Value)) : Prop := match lookK (.str s) kvs with
  | some x => ∃ u v, r = some (some u) ∧ L2.RelV v u ∧ ∀ m N G, Rel K m N G x v
  | none => r = some none
theorem gdEs_ok {K : PySem.W.Frag} (s : List Char) : ∀ {es : List DictEntry} {kvs : List (PV × PV)}, gdEs K es kvs = true → Fnd K s kvs (match es.find? (·.key.isStr (S2 s)) with
      | some e => some (some e.val)
      | none => if es.any (·.refKey) then none else some none) ∧ es.any (·.refKey) = false
  | [], [], _ => ⟨rfl, rfl⟩
  | [], _ :: _, h => by simp [gdEs] at h
  | e :: r, [], h => by simp [gdEs] at h
  | e :: r, (k, v) :: t, h => by
    cases k with
    | str k =>
      rw [gdEs] at h
      split at h
      · rename_i x tk ek
        simp only [Bool.and_eq_true, decide_eq_true_eq] at h
        obtain ⟨⟨h1, h2⟩, h3⟩ := h
        obtain ⟨i1, i2⟩ := gdEs_ok s h3
        have rk : e.refKey = false := by
          unfold DictEntry.refKey
          rw [ek]
        refine ⟨?_, by rw [List.any_cons, rk, i2]; rfl⟩
        have is : e.key.isStr (S2 s) = decide (k = s) := by
          rw [ek, h1]
          show (S2 k == S2 s) = _
          rw [str_beqS]
          by_cases hk : k = s
          · rw [hk]; simp
          · rw [decide_eq_false hk]; simp [hk]
        rw [List.find?_cons, is, List.any_cons, rk, Bool.false_or]
        unfold Fnd
        rw [lookK]
        by_cases hk : k = s
        · subst hk
          rw [if_pos rfl]
          obtain ⟨v0, r0, q0⟩ := kvB_ok h2
          simp only [decide_true]
          exact ⟨_, v0, rfl, r0, q0⟩
        · rw [if_neg (fun z => hk (by injection z))]
          simp only [decide_eq_false hk]
          unfold Fnd at i1
          rw [i2] at i1
          rw [i2]
          exact i1
      · cases h
    | _ => simp [gdEs] at h
/-- such a dict, by name of its address -/
structure GDi (K : PySem.W.Frag) (w : World) (a : Addr) (kvs : List (PV × PV)) : Prop where
  kd : ∃ es n, KDict K w a es n
  ck : gdB K a kvs = true
theorem GDi.get {K : PySem.W.Frag} {w : World} {a : Addr} {kvs : List (PV × PV)} (D : GDi K w a kvs) (s : List Char) : Fnd K s kvs (PySem.W.nsIn K a (S2 s)) := by
  have h := D.ck
  unfold gdB at h
  split at h
  · rename_i es n sl ho
    have q := (gdEs_ok s h).1
    unfold PySem.W.nsIn
    rw [ho]
    exact q
  · cases h
section
variable {X : Cx} {CT : Cts} {cl : Cl} {W : WX} {e1 : Expr} {c1 : E} {pos p : Pos} {x : Str} {a : Addr}
theorem I_gk {c : PV} (hg : Gl X x) (hm : X.mg x = some (.ref a)) (hk : kvB X.K 50 c (.ref a) = true) (hd : (x == ("__debug__" : Str)) = false) : PE X (.Name x pos) (tE X.K CT cl W (.k c)) := by
  obtain ⟨v, r, q⟩ := kvB_ok hk
  exact I_k (pe_glob hg hm r hd) q
theorem I_gin {kvs : List (PV × PV)} (hcl : GroC cl) (D : GDi X.K X.w a kvs) (h1 : PE X e1 (tE X.K CT cl W c1)) (hg : Gl X x) (hm : X.mg x = some (.ref a)) (hd : (x == ("__debug__" : Str)) = false) : PE X (.Compare e1 [.In] [.Name x p] pos) (tE X.K CT cl W (.gin false kvs c1)) := by
  obtain ⟨es, n, kd⟩ := D.kd
  refine PEimp (pe_cmpR (op_in_kd kd) h1 (pe_glob (v := .ref a) hg hm (show L2.RelV (.ref a) (.ref a) from rfl) hd) rfl) fun σ H Q ⟨m, G, h, ρ, R, s, q⟩ => ?_
  simp only [ev] at q
  refine tE_first hcl R s q fun y v h1 m1 G1 H1 _ _ _ R1 s1 r1 q1 => ?_
  split at q1
  · rename_i hs
    cases y with
    | str t =>
      obtain rfl := r1.str_inv
      have f := D.get t
      unfold Fnd at f
      rw [if_neg Bool.false_ne_true] at q1
      cases e : lookK (.str t) kvs with
      | none =>
        rw [e] at f q1
        exact ⟨_, _, rfl, rfl, f, Post.now q1 R1 (.bl _)⟩
      | some z =>
        rw [e] at f q1
        obtain ⟨u, w, f1, _, _⟩ := f
        exact ⟨_, _, rfl, rfl, f1, Post.now q1 R1 (.bl _)⟩
    | _ => cases hs
  · exact q1.elim
theorem I_gnin {kvs : List (PV × PV)} (hcl : GroC cl) (D : GDi X.K X.w a kvs) (h1 : PE X e1 (tE X.K CT cl W c1)) (hg : Gl X x) (hm : X.mg x = some (.ref a)) (hd : (x == ("__debug__" : Str)) = false) : PE X (.Compare e1 [.NotIn] [.Name x p] pos) (tE X.K CT cl W (.gin true kvs c1)) := by
  obtain ⟨es, n, kd⟩ := D.kd
  refine PEimp (pe_cmpR (op_notIn_kd kd) h1 (pe_glob (v := .ref a) hg hm (show L2.RelV (.ref a) (.ref a) from rfl) hd) rfl) fun σ H Q ⟨m, G, h, ρ, R, s, q⟩ => ?_
  simp only [ev] at q
  refine tE_first hcl R s q fun y v h1 m1 G1 H1 _ _ _ R1 s1 r1 q1 => ?_
  split at q1
  · rename_i hs
    cases y with
    | str t =>
      obtain rfl := r1.str_inv
      have f := D.get t
      unfold Fnd at f
      rw [if_pos trivial] at q1
      cases e : lookK (.str t) kvs with
      | none =>
        rw [e] at f q1
        exact ⟨_, _, rfl, rfl, f, Post.now q1 R1 (.bl _)⟩
      | some z =>
        rw [e] at f q1
        obtain ⟨u, w, f1, _, _⟩ := f
        exact ⟨_, _, rfl, rfl, f1, Post.now q1 R1 (.bl _)⟩
    | _ => cases hs
  · exact q1.elim
theorem I_tgin {kvs : List (PV × PV)} (hcl : GroC cl) (D : GDi X.K X.w a kvs) (h1 : PE X e1 (tE X.K CT cl W c1)) (hg : Gl X x) (hm : X.mg x = some (.ref a)) (hd : (x == ("__debug__" : Str)) = false) : PT X (.Compare e1 [.In] [.Name x p] pos) (tT X.K CT cl W (.gin false kvs c1)) := by
  obtain ⟨es, n, kd⟩ := D.kd
  refine PTimp (pt_cmpR (op_in_kd kd) h1 (pe_glob (v := .ref a) hg hm (show L2.RelV (.ref a) (.ref a) from rfl) hd) rfl) fun σ H Q ⟨m, G, h, ρ, R, s, q⟩ => ?_
  have z : tst cl (.gin false kvs c1) ρ h = (ev cl c1 ρ h).bind fun x h1 => if isS x then .ok (if false then !(lookK x kvs).isSome else (lookK x kvs).isSome) h1 else .bad := by
    simp only [tst, ev]
    cases ev cl c1 ρ h with
    | ok x h1 =>
      simp only [bind_ok]
      cases isS x <;> rfl
    | exc x h1 => rfl
    | bad => rfl
  rw [z] at q
  refine tE_first hcl R s q fun y v h1 m1 G1 H1 _ _ _ R1 s1 r1 q1 => ?_
  split at q1
  · rename_i hs
    cases y with
    | str t =>
      obtain rfl := r1.str_inv
      have f := D.get t
      unfold Fnd at f
      cases e : lookK (.str t) kvs with
      | none =>
        rw [e] at f q1
        exact ⟨_, _, rfl, rfl, f, _, rfl, Post.now q1 R1 rfl⟩
      | some z =>
        rw [e] at f q1
        obtain ⟨u, w, f1, _, _⟩ := f
        exact ⟨_, _, rfl, rfl, f1, _, rfl, Post.now q1 R1 rfl⟩
    | _ => cases hs
  · exact q1.elim
theorem I_tgnin {kvs : List (PV × PV)} (hcl : GroC cl) (D : GDi X.K X.w a kvs) (h1 : PE X e1 (tE X.K CT cl W c1)) (hg : Gl X x) (hm : X.mg x = some (.ref a)) (hd : (x == ("__debug__" : Str)) = false) : PT X (.Compare e1 [.NotIn] [.Name x p] pos) (tT X.K CT cl W (.gin true kvs c1)) := by
  obtain ⟨es, n, kd⟩ := D.kd
  refine PTimp (pt_cmpR (op_notIn_kd kd) h1 (pe_glob (v := .ref a) hg hm (show L2.RelV (.ref a) (.ref a) from rfl) hd) rfl) fun σ H Q ⟨m, G, h, ρ, R, s, q⟩ => ?_
  have z : tst cl (.gin true kvs c1) ρ h = (ev cl c1 ρ h).bind fun x h1 => if isS x then .ok (if true then !(lookK x kvs).isSome else (lookK x kvs).isSome) h1 else .bad := by
    simp only [tst, ev]
    cases ev cl c1 ρ h with
    | ok x h1 =>
      simp only [bind_ok]
      cases isS x <;> rfl
    | exc x h1 => rfl
    | bad => rfl
  rw [z] at q
  refine tE_first hcl R s q fun y v h1 m1 G1 H1 _ _ _ R1 s1 r1 q1 => ?_
  split at q1
  · rename_i hs
    cases y with
    | str t =>
      obtain rfl := r1.str_inv
      have f := D.get t
      unfold Fnd at f
      cases e : lookK (.str t) kvs with
      | none =>
        rw [e] at f q1
        exact ⟨_, _, rfl, rfl, f, _, rfl, Post.now q1 R1 rfl⟩
      | some z =>
        rw [e] at f q1
        obtain ⟨u, w, f1, _, _⟩ := f
        exact ⟨_, _, rfl, rfl, f1, _, rfl, Post.now q1 R1 rfl⟩
    | _ => cases hs
  · exact q1.elim
theorem I_gget {kvs : List (PV × PV)} (hcl : GroC cl) (D : GDi X.K X.w a kvs) (h1 : PE X e1 (tE X.K CT cl W c1)) (hg : Gl X x) (hm : X.mg x = some (.ref a)) (hd : (x == ("__debug__" : Str)) = false) (hs : PlainIx e1) : PE X (.Subscript (.Name x p) e1 pos) (tE X.K CT cl W (.gget kvs c1)) := by
  obtain ⟨es, n, kd⟩ := D.kd
  refine PEimp (pe_ix ix_kdict (pe_glob (v := .ref a) hg hm (show L2.RelV (.ref a) (.ref a) from rfl) hd) h1 hs) fun σ H Q ⟨m, G, h, ρ, R, s, q⟩ => ?_
  simp only [ev] at q
  refine tE_first hcl R s q fun y v h1 m1 G1 H1 _ _ _ R1 s1 r1 q1 => ?_
  split at q1
  · rename_i hs
    cases y with
    | str t =>
      obtain rfl := r1.str_inv
      have f := D.get t
      unfold Fnd at f
      cases e : lookK (.str t) kvs with
      | none =>
        rw [e] at q1
        exact q1.elim
      | some z =>
        rw [e] at f q1
        obtain ⟨u, w, f1, f2, f3⟩ := f
        exact ⟨_, _, w, rfl, rfl, ⟨es, n, u, kd.at_, kd.lit, f1, f2⟩, Post.now q1 R1 (f3 _ _ _)⟩
    | _ => cases hs
  · exact q1.elim
end
/-! ### f(k = e, ..) -/
theorem mapO_rel {K : PySem.W.Frag} {m : Nat → Addr} {N : Nat} {G : Hp} {xs : List PV} {vs : List V} (r : RelL K m N G xs vs) : ∀ {ix : List Nat} {ys : List PV}, mapO (fun i => xs[i]?) ix = some ys → ∃ ws, mapO (fun i => vs[i]?) ix = some ws ∧ RelL K m N G ys ws
  | [], ys, e => by
    have e' : ys = [] := by simpa [mapO] using e.symm
    subst e'
    exact ⟨[], by simp [mapO], .nil⟩
  | i :: ix, ys, e => by
    rw [mapO] at e
    cases e1 : xs[i]? with
    | none => rw [e1] at e; simp at e
    | some x =>
      rw [e1] at e
      cases e2 : mapO (fun i => xs[i]?) ix with
      | none => rw [e2] at e; simp at e
      | some t =>
        rw [e2] at e
        have e' : ys = x :: t := by simpa using e.symm
        subst e'
        obtain ⟨v, q1, q2⟩ := r.get e1
        obtain ⟨ws, q3, q4⟩ := mapO_rel r e2
        exact ⟨v :: ws, by rw [mapO, q1, q3], .cons q2 q4⟩
theorem vals_get : ∀ {vs : List V} {us : List Value} {i : Nat} {v : V}, Vals vs us → vs[i]? = some v → ∃ u, us[i]? = some u ∧ L2.RelV v u
  | _, _, _, _, .nil, e => by simp at e
  | _, _, 0, _, .cons a r, e => by
    simp at e
    subst e
    exact ⟨_, rfl, a⟩
  | _, _, i + 1, _, .cons a r, e => by
    obtain ⟨v, h1, h2⟩ := vals_get (i := i) r (by simpa using e)
    exact ⟨v, by simpa using h1, h2⟩
theorem mapO_vals {xs : List V} {vs : List Value} (r : Vals xs vs) : ∀ {ix : List Nat} {ys : List V}, mapO (fun i => xs[i]?) ix = some ys → ∃ ws, mapO (fun i => vs[i]?) ix = some ws ∧ Vals ys ws
  | [], ys, e => by
    have e' : ys = [] := by simpa [mapO] using e.symm
    subst e'
    exact ⟨[], by simp [mapO], .nil⟩
  | i :: ix, ys, e => by
    rw [mapO] at e
    cases e1 : xs[i]? with
    | none => rw [e1] at e; simp at e
    | some x =>
      rw [e1] at e
      cases e2 : mapO (fun i => xs[i]?) ix with
      | none => rw [e2] at e; simp at e
      | some t =>
        rw [e2] at e
        have e' : ys = x :: t := by simpa using e.symm
        subst e'
        obtain ⟨v, q1, q2⟩ := vals_get r e1
        obtain ⟨ws, q3, q4⟩ := mapO_vals r e2
        exact ⟨v :: ws, by rw [mapO, q1, q3], .cons q2 q4⟩
/-- the def binds these keywords in this order -/
def KBi (fd : FuncData) (ps ks : List Str) (ix : List Nat) : Prop := ∀ (s : Shared) (ws us : List Value), ws.length = ks.length → mapO (fun i => ws[i]?) ix = some us → BindsTo s fd ⟨[], ks.zip ws⟩ (ps.zip us)
structure KCal (P : Program) (w : World) (K : PySem.W.Frag) (mg : Str → Option Value) (base : Heap) (CT : Cts) (cl : Cl) (k : Nat) (f : FN) (a : Addr) (ks : List Str) (ix : List Nat) : Prop where
  ex : ∃ fd ps, FnG P w K mg base k a fd ps (spI K CT cl f) ∧ KBi fd ps ks ix
theorem kbi_of {K : PySem.W.Frag} {x qual : Str} {st : Stmt} {f : Addr} {fd : FuncData} {ps ks : List Str} {ix : List Nat} (F : Fun K x qual st f fd)
    (h : ∀ (kV doc pm : Value) (an : Option Addr) (cdv ct : Value) (ws us : List Value), ws.length = ks.length → mapO (fun i => ws[i]?) ix = some us → bindArgs (PySem.W.fnOf x qual (defArgs st) (defBody st) (defScope st) .none kV doc pm an cdv ct) ⟨[], ks.zip ws⟩ = pure (ps.zip us)) : KBi fd ps ks ix := by
  obtain ⟨oc, od, kV, doc, pm, an, cdv, ct, osl, rfl, lk, hcd⟩ := F.ex
  exact fun s ws us h1 h2 => .of_eq (h kV doc pm an cdv ct ws us h1 h2)
section
variable {X : Cx} {CT : Cts} {cl : Cl} {W : WX} {k : Nat} {f : FN} {a : Addr}
theorem run_kcal {ks : List Str} {ix : List Nat} (F : KCal X.prog X.w X.K X.mg X.base CT cl k f a ks ix) (hr : Room k X.A) (hg : X.A.guards = some []) (tk : Takes X W) {pins : List (Addr × Obj)} {σ : L2.St} {H : Hp} {s : Shared} {Q : VK} {us : List Value} {vs : List V} {m : Nat → Addr} {G : Hp} {h : PH} {pvs qvs : List PV}
    (I : Inv X pins σ H s) (r : Vals vs us) (hl : us.length = ks.length) (R : HR X.K CT m G H h) (rl : RelL X.K m h.length G pvs vs) (e : permV ix pvs = some qvs) (p : Post X.K CT (Rel X.K) W σ m G h.length Q (cl f qvs h)) : wpAny (model X.prog X.w) X.A (call (.ref a) [] (ks.zip us)) (EP X pins σ Q) X.xe s := by
  obtain ⟨fd, ps, F, hb⟩ := F.ex
  unfold permV at e
  split at e
  case isFalse => cases e
  obtain ⟨ws, e1, r1⟩ := mapO_rel rl e
  obtain ⟨ys, e2, r2⟩ := mapO_vals r e1
  have hsp : spI X.K CT cl f ws H Q (fun cls d H' => W cls d σ H') := ⟨m, G, h, qvs, R, r1, p.slots fun _ _ _ z => z⟩
  refine wpAny_call (codeAny_mono (F.go X.A X.stack s H ⟨[], ks.zip us⟩ ys ws Q _ hr hg I.env0 (hb s us ys hl e2) r2 hsp) fun r s' hq => ?_)
  cases r with
  | error e => exact tk e s' (XE.of_call I (fun _ _ _ z => z) hq)
  | ok fl =>
    cases fl with
    | ret u => exact I.after hq
    | next => exact False.elim hq
    | brk => exact False.elim hq
    | cont => exact False.elim hq
theorem PKimp {kws : List Keyword} {t t' : TA} (h : L2.PK X kws t) (i : ∀ σ H Q, t' σ H Q → t σ H Q) : L2.PK X kws t' := ⟨fun pos pins s σ H Q I q => h.run pos pins s σ H Q I (i _ _ _ q)⟩
theorem K_nil : L2.PK X [] (tA X.K CT cl W []) := PKimp pk_nil fun σ H Q ⟨m, G, h, ρ, R, s, q⟩ => by
  simp only [evs] at q
  exact Post.now q R .nil
theorem K_cons {kws : List Keyword} {e1 : Expr} {c1 : E} {cs : List E} {nm : Option Str} {kpos : Pos} (hcl : GroC cl) (h1 : PE X e1 (tE X.K CT cl W c1)) (h2 : L2.PK X kws (tA X.K CT cl W cs)) : L2.PK X (⟨nm, e1, kpos⟩ :: kws) (tA X.K CT cl W (c1 :: cs)) :=
  PKimp (pk_cons h1 h2) fun σ H Q ⟨m, G, h, ρ, R, s, q⟩ => by
    simp only [evs] at q
    exact tE_first hcl R s q fun x v h1 m1 G1 H1 _ _ _ R1 s1 r1 q1 => tA_first hcl R1 s1 q1 fun y u h2 m2 G2 H2 x2 g2 l2 R2 s2 r2 q2 => Post.now q2 R2 (.cons (r1.mono x2 l2 g2) r2)
theorem I_callk {g : String} {x : Str} {p pos : Pos} {ks : List Str} {ix : List Nat} {kws : List Keyword} {cs : List E} (hcl : GroC cl) (F : KCal X.prog X.w X.K X.mg X.base CT cl k (.f g) a ks ix) (hr : Room k X.A) (hgd : X.A.guards = some []) (tk : Takes X W) (hg : Gl X x) (hm : X.mg x = some (.ref a)) (hk : PySem.W.keepIn X.K (.ref a) = true)
    (ha : L2.PK X kws (tA X.K CT cl W cs)) (hn : ix.length = ks.length) (hks : (backToKw pos (keywordEach kws X.env)).filterMap (·.1) = ks) (hdb : (x == ("__debug__" : Str)) = false) (hall : (backToKw pos (keywordEach kws X.env)).all (·.1.isSome) = true)
    (hpl : ((backTo pos (starEach [] X.env)).any (·.1) || (backToKw pos (keywordEach kws X.env)).any (·.1.isNone)) = false) :
    PE X (.Call (.Name x p) [] kws pos) (tE X.K CT cl W (.callk g ix cs)) := by
  refine ⟨fun pins s σ H Q I ⟨m, G, h, ρ, R, sr, q⟩ => ?_⟩
  simp only [ev] at q
  refine wpAny_Call_Name_kw (ld_glob I hg hm ?_ hdb)
  refine PySem.W.callWith_KW0 (h₀ := X.base) I.ok.mod.kin hk hall (thn (ha.run pos pins s σ H _ I (tA_first (Q1 := fun vs H1 => ∃ m1 G1 h1 pvs, HR X.K CT m1 G1 H1 h1 ∧ RelL X.K m1 h1.length G1 pvs vs ∧ vs.length = ks.length ∧ ∃ qvs, permV ix pvs = some qvs ∧ Post X.K CT (Rel X.K) W σ m1 G1 h1.length Q (cl (.f g) qvs h1)) hcl R sr q
    fun y v h1 m1 G1 H1 _ _ _ R1 _ rl q1 => ?_)) fun us s1 ⟨vs, H1, I1, r, m1, G1, h1, pvs, R1, rl, hl, qvs, e, q1⟩ => ⟨I1.kIn, ?_⟩) hpl
  · split at q1
    · rename_i qvs e
      refine ⟨m1, G1, h1, y, R1, rl, ?_, qvs, e, q1⟩
      unfold permV at e
      split at e
      case isFalse => cases e
      rename_i hl
      rw [← rl.length, hl, hn]
    · exact q1.elim
  · rw [hks]
    exact run_kcal F hr hgd tk I1 r (by rw [← r.length]; exact hl) R1 rl e q1
end
end Mi

set_option Elab.async false
set_option linter.all false
set_option maxRecDepth 100000
/-! Mo4: facts of the classes of the top, by computing. -/
namespace Mi
open PySem PySem.Spec PyProof.Rows L2
abbrev gaS (K : PySem.W.Frag) (c : String) : Addr := He.ga K (SO c)
/-- the classes of instances and of exceptions, by name -/
abbrev CTm (ins exc : List String) (K : PySem.W.Frag) (tb : List (Addr × Str) := []) (gh : List GF := []) : Cts := ⟨fun c C => c ∈ ins ∧ C = gaS K c, fun c C => c ∈ exc ∧ C = gaS K c, tb, gh⟩
variable {tb : List (Addr × Str)} {gh : List GF}
def tyTB (K : PySem.W.Frag) (ins exc : List String) (u : Value) (ts : List String) : Bool :=
  (["NoneType", "bool", "int", "str", "tuple", "list", "dict"].all fun n => decide (PySem.W.kitOne K (.type n) u = some (decide (n ∈ ts)))) && ((ins ++ exc).all fun c => decide (PySem.W.kitOne K (.ref (gaS K c)) u = some (decide (c ∈ ts))))
theorem tyTB_ok {K : PySem.W.Frag} {ins exc : List String} {u : Value} {ts : List String} (h : tyTB K ins exc u ts = true) : TyT K (CTm ins exc K tb gh) u ts := by
  unfold tyTB at h
  rw [Bool.and_eq_true, List.all_eq_true, List.all_eq_true] at h
  refine ⟨fun n hn => of_decide_eq_true (h.1 n hn), fun c C hc => ?_, fun c C hc => ?_⟩
  · obtain ⟨h1, rfl⟩ := hc
    exact of_decide_eq_true (h.2 c (List.mem_append_left _ h1))
  · obtain ⟨h1, rfl⟩ := hc
    exact of_decide_eq_true (h.2 c (List.mem_append_right _ h1))
def excCB (K : PySem.W.Frag) (D : Addr) : Bool :=
  decide (PySem.W.findIn K (.ref D) "__getattribute__" = some (some (.builtin "BaseException.__getattribute__"))) && (decide (PySem.W.findIn K (.ref D) "__getattr__" = some none) && (decide (PySem.W.subIn K (.ref D) (.type "BaseException") = some true) && (PySem.W.hasDictIn K D &&
    (decide (PySem.W.findIn K (.ref D) "__class__" = some (some (.builtin "object.__class__"))) && (decide (PySem.W.specialIn K (.builtin "object.__class__") "__get__" = some (some (.builtin "getset_descriptor.__get__"))) && (decide (PySem.W.takesIn K (.builtin "object.__class__") = some true) && decide (PySem.W.mroIn K D (.type "object") = some true)))))))
theorem excCB_ok {K : PySem.W.Frag} {D : Addr} (h : excCB K D = true) : ExcC K D := by
  unfold excCB at h
  simp only [Bool.and_eq_true, decide_eq_true_eq] at h
  obtain ⟨h1, h2, h3, h4, h5, h6, h7, h8⟩ := h
  exact ⟨h1, h2, h3, h4, h5, h6, h7, h8⟩
def excAllB (K : PySem.W.Frag) (exc : List String) : Bool := exc.all fun c => excCB K (gaS K c)
theorem excAllB_ok {K : PySem.W.Frag} {ins exc : List String} (h : excAllB K exc = true) : ∀ c C, (CTm ins exc K tb gh).exc c C → ExcC K C := by
  unfold excAllB at h
  rw [List.all_eq_true] at h
  rintro c C ⟨h1, rfl⟩
  exact excCB_ok (h c h1)
/-- which exceptions an except clause takes -/
def exmB (K : PySem.W.Frag) (exc : List String) (q : String) (ks : List String) : Bool := exc.all fun c => decide (PySem.W.exmOne K (.ref (gaS K c)) (.ref (gaS K q)) = some (decide (c ∈ ks)))
theorem exmB_ok {K : PySem.W.Frag} {ins exc : List String} {q : String} {ks : List String} (h : exmB K exc q ks = true) : ∀ c C, (CTm ins exc K tb gh).exc c C → PySem.W.exmOne K (.ref C) (.ref (gaS K q)) = some (decide (c ∈ ks)) := by
  unfold exmB at h
  rw [List.all_eq_true] at h
  rintro c C ⟨h1, rfl⟩
  exact of_decide_eq_true (h c h1)
/-- no class has the attribute f -/
def xfAllB (K : PySem.W.Frag) (exc : List String) (f : String) : Bool := exc.all fun c => xfB K (gaS K c) && decide (PySem.W.findIn K (.ref (gaS K c)) (SO f) = some none)
theorem xfAllB_ok {K : PySem.W.Frag} {ins exc : List String} {f : String} (h : xfAllB K exc f = true) : ∀ c C, (CTm ins exc K tb gh).exc c C → XfC K C ∧ PySem.W.findIn K (.ref C) (SO f) = some none := by
  unfold xfAllB at h
  rw [List.all_eq_true] at h
  rintro c C ⟨h1, rfl⟩
  have q := h c h1
  rw [Bool.and_eq_true] at q
  exact ⟨xfB_ok q.1, of_decide_eq_true q.2⟩
/-! ### calls by keywords, one level up -/
section
variable {P : Program} {w : World} {K : PySem.W.Frag} {mg : Str → Option Value} {base : Heap} {CT : Cts} {t : FN → Option Fn} {n k : Nat} {f : FN} {d : Fn} {a : Addr} {fd : FuncData} {ps ks : List Str} {ix : List Nat}
theorem spI_succ (h : t f = some d) : spI K CT (callN t (n + 1)) f = spB K CT (callN t n) d := by
  have z : ∀ pvs g, callN t (n + 1) f pvs g = d.run (callN t n) pvs g := fun pvs g => by simp only [callN, h]
  funext vs H Q E
  unfold spI spB
  simp only [z]
theorem kcal_succ (h : t f = some d) (F : FnG P w K mg base k a fd ps (spB K CT (callN t n) d)) (b : KBi fd ps ks ix) : KCal P w K mg base CT (callN t (n + 1)) k f a ks ix := by
  refine ⟨fd, ps, ?_, b⟩
  rw [spI_succ h]
  exact F
theorem kcal_zero (b : KBi fd ps ks ix) : KCal P w K mg base CT (callN t 0) k f a ks ix := by
  refine ⟨fd, ps, FnG.none fun vs H Q E z => ?_, b⟩
  obtain ⟨m, G, h, pvs, _, _, q⟩ := z
  exact q
end
section
variable {X : Cx} {CT : Cts} {cl : Cl} {W : WX}
/-- a class of the top, where isinstance asks for it -/
theorem I_own {x : Str} {a : Addr} {p : Pos} (hg : Gl X x) (hm : X.mg x = some (.ref a)) (hd : (x == ("__debug__" : Str)) = false) : PE X (.Name x p) (tC (.ref a)) := pe_glob (v := .ref a) hg hm (show L2.RelV (.ref a) (.ref a) from rfl) hd
end
end Mi

set_option Elab.async false
set_option linter.all false
set_option maxRecDepth 100000
/-! Mx1: own errors with an __init__ that calls the base's and keeps one value. -/
namespace Mi
open PySem PySem.Spec PyProof.Rows L2
section
variable {X : Cx} {o e : Expr} {es : List Expr} {to te : TE} {ta : TA} {f : Str} {p p' p1 p2 pos : Pos}
/-- what the base class must say: its __init__ is ValueError's -/
structure BaseI (K : PySem.W.Frag) (B : Addr) (mc : Value) : Prop where
  rd : PySem.W.readsIn K B mc = true
  ga : PySem.W.specialIn K (.ref B) "__getattribute__" = some (some (.builtin "type.__getattribute__"))
  at_ : PySem.W.findCls K (.ref B) mc "__init__" = some (.val (.builtin "ValueError.__init__"))
/-- B.__init__(self, ..), B an own class without an __init__ -/
theorem pe_baseinit {x : Str} {B : Addr} {mc : Value} {pl : Sem Bool} (hg : Gl X x) (hm : X.mg x = some (.ref B)) (b : BaseI X.K B mc) (ha : PA X (e :: es) ta) (hdb : (x == ("__debug__" : Str)) = false)
    (hc : eval (.Call (.Attribute (.Name x p1) "__init__" p2) (e :: es) [] pos) X.env = (do
      let ov ← eval (.Name x p1) X.env
      standAt p2.atName
      let (f, first) ← holding [ov] (getMethod ov "__init__" pl)
      callWith pos f first (backTo pos (starEach (e :: es) X.env)) (backToKw pos (keywordEach [] X.env))) := by rfl)
    (he : starEach (e :: es) X.env = (false, eval e X.env) :: starEach es X.env := by rfl) (hpl : (backTo pos (starEach es X.env)).any (·.1) = false := by rfl) :
    PE X (.Call (.Attribute (.Name x p1) "__init__" p2) (e :: es) [] pos) (tVeI X.K ta) := by
  refine ⟨fun pins s σ H Q I h => ?_⟩
  refine PySem.W.methodCall_KW (ld_glob I hg hm ?_ hdb) hc
  refine PySem.W.method_cls I.kIn b.ga (PySem.W.cls_value I.kIn b.rd b.at_ (by decide +kernel) ?_)
  show wpAny _ _ (callWith pos (Value.builtin "ValueError.__init__") [] (backTo pos (starEach (e :: es) X.env)) []) _ _ _
  refine PyProof.Rows.callWith_method1 (thn (ha.run pos pins _ σ H _ (I.tok _) h) fun us s1 ⟨vs, H1, I1, r1, a, C, ws, ez, hl, T, ea, q⟩ => ?_) he hpl
  subst ez
  cases r1 with
  | @cons _ u0 _ ur ra rt =>
    obtain rfl : u0 = Value.ref a := ra
    have few : ur.length ≤ sizeLine := by
      rw [← Paired.length rt, sizeLine_eq]
      omega
    exact oinit_ok T I1 ea few fun s2 J => ⟨.non, H1, J, rfl, q⟩
end
/-- what such an __init__ does: from the exception that is being made and a value, to the exception with it -/
def spInit (K : PySem.W.Frag) (C : Addr) (f : Str) : Sp := fun vs H Q _ => ∃ (a : Addr) (v : V), vs = [.ref a, v] ∧ H a = some (exo a C none) ∧ ∀ dx, H dx = none → dx ≠ a → Q .non (upd (upd H dx (exd dx [(f, v)])) a (exo a C (some dx)))
section
variable {P : Program} {w : World} {K : PySem.W.Frag} {mg : Str → Option Value} {base : Heap}
/-- the class object is an own error's, with a dict for its instances -/
def oexB (K : PySem.W.Frag) (C : Addr) : Bool := match K.lookup C with
  | some ⟨.type "type", _, .cls cd, sl⟩ => (match cd.mro, sl.toList with
    | .ref D :: bm, [_, _, _, _, some (.builtin n), _] => D == C && n == "ValueError.__new__" && !cd.hasDel && cd.hasDict && PySem.HandSPX.refsVE bm
    | _, _ => false)
  | _ => false
theorem oexB_ok {C : Addr} (h : oexB K C = true) : ∃ nm q N bs bm sn sub ab col dd k0 k1 k2 k3 k5, K.lookup C = some (excClassObj nm q C N bs bm true sn sub ab col dd k0 k1 k2 k3 k5 "ValueError.__new__") ∧ PySem.HandSPX.refsVE bm = true := by
  unfold oexB at h
  split at h
  · rename_i dd cd sl ho
    split at h
    · rename_i D bm k0 k1 k2 k3 n k5 hm hs
      simp only [Bool.and_eq_true, beq_iff_eq, Bool.not_eq_true'] at h
      obtain ⟨⟨⟨⟨rfl, rfl⟩, hdel⟩, hdict⟩, hr⟩ := h
      obtain ⟨nm, bs, mro, ns, qn, hd, sn, sub, ab, col, del⟩ := cd
      dsimp only at hm hdel hdict
      subst hm hdel hdict
      have hsl : sl = #[k0, k1, k2, k3, some (.builtin "ValueError.__new__"), k5] := by
        obtain ⟨l⟩ := sl
        simp only at hs
        rw [hs]
      subst hsl
      exact ⟨_, _, _, _, bm, _, _, _, _, _, k0, k1, k2, k3, k5, ho, hr⟩
    · cases h
  · cases h
def oexAll (K : PySem.W.Frag) (C : Addr) : Bool := oexB K C && (decide (PySem.W.findIn K (.ref C) "__setattr__" = some (some (.builtin "object.__setattr__"))) && (decide (PySem.W.subIn K (.ref C) (.type "BaseException") = some true) && (decide (PySem.W.typeIn K (.ref C) = some (.type "type")) && PySem.W.keepIn K (.ref C))))
theorem oexAll_ok {C : Addr} (h : oexAll K C = true) : OexC K C := by
  obtain ⟨h1, h⟩ := Bool.and_eq_true_iff.mp h
  obtain ⟨h2, h⟩ := Bool.and_eq_true_iff.mp h
  obtain ⟨h3, h⟩ := Bool.and_eq_true_iff.mp h
  obtain ⟨h4, h5⟩ := Bool.and_eq_true_iff.mp h
  exact ⟨oexB_ok h1, of_decide_eq_true h2, of_decide_eq_true h3, of_decide_eq_true h4, h5⟩
/-- the facts of an own error class with such an __init__ -/
structure LowI (P : Program) (w : World) (K : PySem.W.Frag) (mg : Str → Option Value) (base : Heap) (x f : Str) (C : Addr) : Prop where
  gC : mg x = some (.ref C)
  ox : OexC K C
  ini : ∃ (g : Addr) (fd : FuncData), PySem.W.findIn K (.ref C) "__init__" = some (some (.ref g)) ∧ PySem.W.typeIn K (.ref g) = some (.type "function") ∧ FnOk P w K mg base CX0 1 g fd ["self", f] (spInit K C f) ∧ Binds K fd ["self", f] []
end
section
variable {X : Cx} {CT : Cts} {cl : Cl} {W : WX} {e : Expr} {c : E} {pos p : Pos}
/-- raise C(e), C an own error with such an __init__ -/
theorem S_raiseI {n f : String} {x : Str} {C : Addr} {k : Nat} {rpos : Pos} (hcl : GroC cl) (hc : X.calm = true) (tk : Takes X W) (ct : CT.exc n C) (L : LowI X.prog X.w X.K X.mg X.base x (Str.ofString f) C) (hr : Room (k + 2) X.A) (hg : Gl X x) (he : PE X e (tE X.K CT cl W c)) (hdb : (x == ("__debug__" : Str)) = false)
    (hs : starEach [e] X.env = (false, eval e X.env) :: starEach [] X.env) (hpl : (backTo pos (starEach [] X.env)).any (·.1) = false) : PS X (.Raise (some (.Call (.Name x p) [e] [] pos)) none rpos) (tS X.K CT cl W (.raiseI n f c)) := by
  obtain ⟨g, fd, i1, i2, F, b⟩ := L.ini
  refine PSimp (ps_raise hc tk (pmk_oex L.ox i1 i2 F (hr.mono (by omega)) b .nil pass0 hg L.gC (pa_cons he pa_nil hs) hdb hs hpl)) fun D σ H ⟨m, G, h, ρ, R, s, z⟩ => ?_
  simp only [ex] at z
  refine ⟨m, G, h, ρ, R, s, Post.mono (PostF.lift (rel := Rel X.K) (ev_gro hcl c ρ h) s z) fun v H1 ⟨px, h1, m1, G1, e1, sg, R1, r1, le, q1⟩ => ?_⟩
  refine ⟨by simp, fun a ha => ⟨a, v, rfl, upd_same, fun dx hdx hne => ⟨rfl, dx, [(Str.ofString f, v)], upd_same, ?_, ?_, ?_⟩⟩⟩
  · rw [upd_ne hne, upd_same]
  · rw [upd_ne hne] at hdx
    exact hdx
  · rw [upd_ne hne] at hdx
    have eh : upd (del (upd (upd (upd H1 a (exo a C none)) dx (exd dx [(Str.ofString f, v)])) a (exo a C (some dx))) a) dx (.xd [(Str.ofString f, v)]) = upd H1 dx (.xd [(Str.ofString f, v)]) := by
      funext b
      unfold upd del
      by_cases h1 : b = dx
      · simp [h1]
      · by_cases h2 : b = a
        · subst h2
          simp [h1, ha]
        · simp [h1, h2]
    rw [eh]
    obtain ⟨R2, s2⟩ := R1.newT (u := .xd [(Str.ofString f, v)]) hdx
    exact q1 m1 _ _ Ex.refl s2 R2 σ (.ref C) (some dx) ((s.mono e1 le sg).mono Ex.refl (Nat.le_refl _) s2) ⟨C, ct, rfl, .inr ⟨dx, _, rfl, upd_same, rfl, r1.mono Ex.refl (Nat.le_refl _) s2, trivial⟩⟩
/-! ### the body of such an __init__ -/
def tIni (K : PySem.W.Frag) (f : Str) : TS := fun D σ H => ∃ (a C : Addr) (v : V), σ[0]? = some (some (.ref a)) ∧ σ[1]? = some (some v) ∧ H a = some (exo a C none) ∧ OexC K C ∧ PySem.W.findIn K (.ref C) f = some none ∧ ∀ dx, H dx = none → dx ≠ a → D.nx σ (upd (upd H dx (exd dx [(f, v)])) a (exo a C (some dx)))
theorem init_ps {X : Cx} {x f z : Str} {B : Addr} {mc : Value} {pl : Sem Bool} {e1 e2 e3 e4 : Expr} {p1 p2 pos ep p' pos' : Pos} (hg : Gl X x) (hm : X.mg x = some (.ref B)) (b : BaseI X.K B mc) (h1 : PE X e1 (tVar 0)) (h2 : PE X e2 (tC (.str z))) (h3 : PE X e3 (tVar 0)) (h4 : PE X e4 (tVar 1)) (hdb : (x == ("__debug__" : Str)) = false)
    (hs2 : starEach [e2] X.env = (false, eval e2 X.env) :: starEach [] X.env) (hs1 : starEach (e1 :: [e2]) X.env = (false, eval e1 X.env) :: starEach [e2] X.env) (hpl : (backTo pos (starEach [e2] X.env)).any (·.1) = false)
    (hc : eval (.Call (.Attribute (.Name x p1) "__init__" p2) (e1 :: [e2]) [] pos) X.env = (do
      let ov ← eval (.Name x p1) X.env
      standAt p2.atName
      let (g, first) ← holding [ov] (getMethod ov "__init__" pl)
      callWith pos g first (backTo pos (starEach (e1 :: [e2]) X.env)) (backToKw pos (keywordEach [] X.env))))
    (sw1 : swapsWith (.Call (.Attribute (.Name x p1) "__init__" p2) (e1 :: [e2]) [] pos) none ep.line X.env = pure false) (sw2 : swapsWith e4 (some (.Attribute e3 f p')) pos'.line X.env = pure false) :
    PSs X [.Expr (.Call (.Attribute (.Name x p1) "__init__" p2) (e1 :: [e2]) [] pos) ep, .Assign [.Attribute e3 f p'] e4 pos'] (tIni X.K f) := by
  have q := pss_cons (ps_expr (pos := ep) (pe_baseinit hg hm b (pa_cons h1 (pa_cons h2 pa_nil hs2) hs1) hdb hc hs1 hpl) sw1) (pss_one (ps_ost (X := X) (f := f) (p' := p') (pos := pos') h3 h4 sw2))
  refine ⟨fun pins s σ H D I ⟨a, C, v, s0, s1, ea, ox, no, k⟩ => q.run pins s σ H D I ?_⟩
  refine ⟨.ref a, s0, ⟨a, C, [.str z], rfl, by simp, ox, ea, ?_⟩⟩
  exact ⟨v, s1, .ref a, s0, a, C, rfl, ox, no, .inl ⟨ea, k⟩⟩
theorem init_rd {K : PySem.W.Frag} {C : Addr} {f : Str} {vs : List V} {H : Hp} {Q : VK} {E : XK} {N : List Str} (h : spInit K C f vs H Q E) (ox : OexC K C) (no : PySem.W.findIn K (.ref C) f = some none) : tIni K f { nx := fun _ H' => Q .non H', rt := Q } (start N vs) H := by
  obtain ⟨a, v, rfl, ea, k⟩ := h
  exact ⟨a, C, v, rfl, rfl, ea, ox, no, k⟩
theorem init_len {K : PySem.W.Frag} {C : Addr} {f : Str} {vs : List V} {H : Hp} {Q : VK} {E : XK} (h : spInit K C f vs H Q E) : vs.length = 2 := by
  obtain ⟨a, v, rfl, _⟩ := h
  rfl
end
end Mi

set_option Elab.async false
set_option linter.all false
set_option maxRecDepth 100000
/-! Mo5: facts of errors with an own __init__, by computing. -/
namespace Mi
open PySem PySem.Spec PyProof.Rows L2
/-- the statements of a class -/
def clsB : Stmt → List Stmt
  | .ClassDef _ _ _ body .. => body
  | _ => []
/-- the i-th of them -/
def inCls (st : Stmt) (i : Nat) : Stmt := (clsB st).getD i (.Pass ⟨0, 0, 0, 0⟩)
structure LowF (K : PySem.W.Frag) (q f : String) : Prop where
  ox : OexC K (gaS K q)
  no : PySem.W.findIn K (.ref (gaS K q)) (SO f) = some none
  i1 : PySem.W.findIn K (.ref (gaS K q)) "__init__" = some (some (.ref (He.ma K (gaS K q) "__init__")))
  i2 : PySem.W.typeIn K (.ref (He.ma K (gaS K q) "__init__")) = some (.type "function")
def lowB (K : PySem.W.Frag) (q f : String) : Bool := oexAll K (gaS K q) && (decide (PySem.W.findIn K (.ref (gaS K q)) (SO f) = some none) && (decide (PySem.W.findIn K (.ref (gaS K q)) "__init__" = some (some (.ref (He.ma K (gaS K q) "__init__")))) && decide (PySem.W.typeIn K (.ref (He.ma K (gaS K q) "__init__")) = some (.type "function"))))
theorem lowB_ok {K : PySem.W.Frag} {q f : String} (h : lowB K q f = true) : LowF K q f := by
  unfold lowB at h
  simp only [Bool.and_eq_true, decide_eq_true_eq] at h
  exact ⟨oexAll_ok h.1, h.2.1, h.2.2.1, h.2.2.2⟩
def baseB (K : PySem.W.Frag) (b : String) : Bool := PySem.W.readsIn K (gaS K b) (.type "type") && (decide (PySem.W.specialIn K (.ref (gaS K b)) "__getattribute__" = some (some (.builtin "type.__getattribute__"))) && (match PySem.W.findCls K (.ref (gaS K b)) (.type "type") "__init__" with
  | some (.val v) => decide (v = .builtin "ValueError.__init__")
  | _ => false))
theorem baseB_ok {K : PySem.W.Frag} {b : String} (h : baseB K b = true) : BaseI K (gaS K b) (.type "type") := by
  unfold baseB at h
  simp only [Bool.and_eq_true, decide_eq_true_eq] at h
  obtain ⟨h1, h2, h3⟩ := h
  refine ⟨h1, h2, ?_⟩
  split at h3
  · rename_i v e
    rw [e, of_decide_eq_true h3]
  · cases h3
theorem lowI_mk {P : Program} {w : World} {K : PySem.W.Frag} {mg : Str → Option Value} {base : Heap} {q f : String} {fd : FuncData} (hm : mg (SO q) = some (.ref (gaS K q))) (l : LowF K q f) (F : FnOk P w K mg base CX0 1 (He.ma K (gaS K q) "__init__") fd ["self", SO f] (spInit K (gaS K q) (SO f))) (b : Binds K fd ["self", SO f] []) : LowI P w K mg base (SO q) (SO f) (gaS K q) :=
  ⟨hm, l.ox, _, fd, l.i1, l.i2, F, b⟩
end Mi

set_option Elab.async false
set_option linter.all false
set_option maxRecDepth 100000
/-! Mo6: C(e, ..), an own class. -/
namespace Mi
open PySem PySem.Spec PyProof.Rows L2
theorem make_guards {A : Around} {C : Addr} {us : List Value} {kw : List (Str × Value)} (h : A.guards = some []) : (A.under (.builtin "type.__call__" ⟨.ref C :: us, kw⟩)).guards = some [] := by
  first
    | exact h
    | simpa [Around.under, Code.guards, Code.isGuard, Code.frames, Code.isFrame, guardIds, pushGuards] using h
section
variable {X : Cx} {CT : Cts} {cl : Cl} {W : WX} {k : Nat}
theorem run_new {c : String} {C g : Addr} (M : Mk X.K C g) (F : Cal X.prog X.w X.K X.mg X.base CT cl k (.m c "__init__") g) (ct : CT.ins c C) (hr : Room (k + 1) X.A) (hg : X.A.guards = some []) (tk : Takes X W) {pins : List (Addr × Obj)} {σ : L2.St} {H : Hp} {s : Shared} {Q : VK} {us : List Value} {vs : List V} {m : Nat → Addr} {G : Hp} {h : PH} {pvs : List PV}
    (I : Inv X pins σ H s) (r : Vals vs us) (R : HR X.K CT m G H h) (rl : RelL X.K m h.length G pvs vs) (p : Post X.K CT (Rel X.K) W σ m G h.length Q ((cl (.m c "__init__") (.ref h.length :: pvs) (h ++ [.ins c []])).bind fun r h2 => if r = .non then .ok (.ref h.length) h2 else .bad))
    (gro : Gro (h ++ [PO.ins c []]) (cl (.m c "__init__") (.ref h.length :: pvs) (h ++ [.ins c []]))) : wpAny (model X.prog X.w) X.A (call (.ref C) us) (EP X pins σ Q) X.xe s := by
  obtain ⟨fd, ps, F, hb⟩ := F.ex
  have f1 : H (s.heap.objs.size + 1) = none := I.hok.fresh (Nat.le_succ _)
  have f2 : H s.heap.objs.size = none := I.hok.fresh (Nat.le_refl _)
  have ne : s.heap.objs.size ≠ s.heap.objs.size + 1 := Nat.ne_of_lt (Nat.lt_succ_self _)
  have I2 := Inv.made (C := C) I
  generalize hx : s.heap.objs.size + 1 = x at *
  generalize hd : s.heap.objs.size = dx at *
  have R2 : HR X.K CT (mx m h.length x) G (upd (upd H dx (.own x)) x (.ins C dx [])) (h ++ [.ins c []]) := R.new (p := x) (o := .ins c []) f1 (fun b hb => by
    rw [upd_ne fun z => hb (by rw [z]; exact f1), upd_ne fun z => hb (by rw [z]; exact f2)]) ⟨C, dx, [], ct, upd_same, trivial⟩ rfl
  have hN : (h ++ [PO.ins c []]).length = h.length + 1 := by simp
  have rx : Rel X.K (mx m h.length x) (h ++ [PO.ins c []]).length G (.ref h.length) (.ref x) := by
    have q : Rel X.K (mx m h.length x) (h ++ [PO.ins c []]).length G (.ref h.length) (.ref (mx m h.length x h.length)) := .ref (by rw [hN]; omega)
    rw [mx_new] at q
    exact q
  have rl2 : RelL X.K (mx m h.length x) (h ++ [PO.ins c []]).length G (.ref h.length :: pvs) (.ref x :: vs) := .cons rx (rl.mono mx_ex (by rw [hN]; omega) Sub.refl)
  have hsp : spI X.K CT cl (.m c "__init__") (.ref x :: vs) (upd (upd H dx (.own x)) x (.ins C dx [])) (fun v H2 => v = .non ∧ Q (.ref x) H2) (fun cls d H' => W cls d σ H') := by
    refine ⟨_, G, _, _, R2, rl2, ?_⟩
    cases e : cl (.m c "__init__") (.ref h.length :: pvs) (h ++ [.ins c []]) with
    | bad => rw [e] at p; exact p.elim
    | exc y h2 =>
      rw [e] at p
      exact fun m' G' H' cls d e1 e2 e3 e4 => p m' G' H' cls d ((mx_ex (p := x)).trans e1 (by rw [hN]; omega)) e2 e3 e4
    | ok a h2 =>
      rw [e] at p gro
      have gl : h.length + 1 ≤ h2.length := by
        have z : (h ++ [PO.ins c []]).length ≤ h2.length := gro
        omega
      rw [bind_ok] at p
      intro m' G' H' b e1 e2 e3 e4
      split at p
      · rename_i ha
        subst ha
        refine ⟨e4.non_inv, ?_⟩
        have q := p m' G' H' (.ref (m' h.length)) ((mx_ex (p := x)).trans e1 (by rw [hN]; omega)) e2 e3 (.ref (by omega))
        rw [e1 h.length (by rw [hN]; omega), mx_new] at q
        exact q
      · exact p.elim
  have r2 : Vals (V.ref x :: vs) (Value.ref x :: us) := .cons rfl r
  have hl : (Value.ref x :: us).length = ps.length := by rw [← r2.length]; exact F.ar _ _ _ _ hsp
  have hbd := hb _ (Value.ref x :: us) I2.kIn (by rw [List.append_nil]; exact hl)
  rw [List.append_nil] at hbd
  subst hx hd
  refine wpAny_call (make_map (f := g) I.kIn M.makes M.init (beq_iff_eq.mp M.fn) (codeAny_mono (F.go _ X.stack _ _ ⟨Value.ref (s.heap.objs.size + 1) :: us, []⟩ (Value.ref (s.heap.objs.size + 1) :: us) _ _ _ (hr.make C us []) (make_guards hg)
    (I2.env0.make C us []) hbd r2 hsp) fun r s' hq' => ?_))
  cases r with
  | error e => exact tk e s' (XE.of_call I2 (fun _ _ _ z => z) hq')
  | ok fl =>
    cases fl with
    | ret u =>
      obtain ⟨v, H', I3, rv, ev, q3⟩ := I2.after hq'
      subst ev
      exact ⟨rv, ⟨V.ref (s.heap.objs.size + 1), H', I3, rfl, q3⟩⟩
    | next => exact False.elim hq'
    | brk => exact False.elim hq'
    | cont => exact False.elim hq'
theorem I_new {c : String} {x : Str} {C g : Addr} {p pos : Pos} {e : Expr} {es : List Expr} {cs : List E} (hcl : GroC cl) (M : Mk X.K C g) (F : Cal X.prog X.w X.K X.mg X.base CT cl k (.m c "__init__") g) (ct : CT.ins c C) (hr : Room (k + 1) X.A) (hgd : X.A.guards = some []) (tk : Takes X W) (hg : Gl X x) (hm : X.mg x = some (.ref C))
    (ha : PA X (e :: es) (tA X.K CT cl W cs)) (hdb : (x == ("__debug__" : Str)) = false) (he : starEach (e :: es) X.env = (false, eval e X.env) :: starEach es X.env) (hpl : (backTo pos (starEach es X.env)).any (·.1) = false) :
    PE X (.Call (.Name x p) (e :: es) [] pos) (tE X.K CT cl W (.new c cs)) := by
  refine ⟨fun pins s σ H Q I ⟨m, G, h, ρ, R, sr, q⟩ => ?_⟩
  simp only [ev] at q
  refine wpAny_Call_Name_kw (ld_glob I hg hm ?_ hdb)
  refine PySem.W.callWith_K (h₀ := X.base) I.ok.mod.kin M.kp (thn (ha.run pos pins s σ H _ I (tA_first (Q1 := fun vs H1 => ∃ m1 G1 h1 pvs, HR X.K CT m1 G1 H1 h1 ∧ RelL X.K m1 h1.length G1 pvs vs ∧ Post X.K CT (Rel X.K) W σ m1 G1 h1.length Q ((cl (.m c "__init__") (.ref h1.length :: pvs) (h1 ++ [.ins c []])).bind fun r h2 => if r = .non then .ok (.ref h1.length) h2 else .bad)) hcl R sr q
    fun x v h1 m1 G1 H1 _ _ _ R1 _ rl q1 => ⟨m1, G1, h1, x, R1, rl, q1⟩)) fun us s1 ⟨vs, H1, I1, r, m1, G1, h1, pvs, R1, rl, q1⟩ => ⟨I1.kIn, ?_⟩) he hpl
  exact run_new M F ct hr hgd tk I1 r R1 rl q1 (hcl _ _ _)
theorem I_new0 {c : String} {x : Str} {C g : Addr} {p pos : Pos} (hcl : GroC cl) (M : Mk X.K C g) (F : Cal X.prog X.w X.K X.mg X.base CT cl k (.m c "__init__") g) (ct : CT.ins c C) (hr : Room (k + 1) X.A) (hgd : X.A.guards = some []) (tk : Takes X W) (hg : Gl X x) (hm : X.mg x = some (.ref C)) (hdb : (x == ("__debug__" : Str)) = false) :
    PE X (.Call (.Name x p) [] [] pos) (tE X.K CT cl W (.new c [])) := by
  refine ⟨fun pins s σ H Q I ⟨m, G, h, ρ, R, sr, q⟩ => ?_⟩
  simp only [ev, evs, bind_ok] at q
  refine wpAny_Call_Name_kw (ld_glob I hg hm ?_ hdb)
  exact PySem.W.callWith_K0 I.kIn M.kp (run_new (us := []) M F ct hr hgd tk I .nil R .nil q (hcl _ _ _))
end
end Mi

set_option Elab.async false
set_option linter.all false
set_option maxRecDepth 100000
/-! Mo7: facts of own classes, by computing. -/
namespace Mi
open PySem PySem.Spec PyProof.Rows L2
/-- all classes; none has an attribute f -/
def naAllB (K : PySem.W.Frag) (ins : List String) (f : String) : Bool := ins.all fun c => (He.Fa.cls (SO c)).ok K && (He.Fa.noat (SO c) (SO f)).ok K
variable {tb : List (Addr × Str)} {gh : List GF}
theorem naAllB_ok {K : PySem.W.Frag} {ins exc : List String} {f : String} (h : naAllB K ins f = true) : ∀ c C, (CTm ins exc K tb gh).ins c C → Cls K C ∧ NoAttr K C (SO f) := by
  unfold naAllB at h
  rw [List.all_eq_true] at h
  rintro c C ⟨h1, rfl⟩
  have q := h c h1
  rw [Bool.and_eq_true] at q
  exact ⟨He.cls_ok q.1, He.noat_ok q.2⟩
def insTB (K : PySem.W.Frag) (c : String) : Bool := (He.Fa.cls (SO c)).ok K && (decide (PySem.W.findIn K (.ref (gaS K c)) "__class__" = some (some (.builtin "object.__class__"))) && (decide (PySem.W.specialIn K (.builtin "object.__class__") "__get__" = some (some (.builtin "getset_descriptor.__get__"))) && (decide (PySem.W.takesIn K (.builtin "object.__class__") = some true) && decide (PySem.W.mroIn K (gaS K c) (.type "object") = some true))))
theorem insTB_ok {K : PySem.W.Frag} {c : String} (h : insTB K c = true) : InsT K (gaS K c) := by
  unfold insTB at h
  simp only [Bool.and_eq_true, decide_eq_true_eq] at h
  obtain ⟨h1, h2, h3, h4, h5⟩ := h
  exact ⟨He.cls_ok h1, h2, h3, h4, h5⟩
def insAllB (K : PySem.W.Frag) (ins : List String) : Bool := ins.all fun c => insTB K c
theorem insAllB_ok {K : PySem.W.Frag} {ins exc : List String} (h : insAllB K ins = true) : ∀ c C, (CTm ins exc K tb gh).ins c C → InsT K C := by
  unfold insAllB at h
  rw [List.all_eq_true] at h
  rintro c C ⟨h1, rfl⟩
  exact insTB_ok (h c h1)
theorem ins_one {K : PySem.W.Frag} {ins exc : List String} : ∀ c C C', (CTm ins exc K tb gh).ins c C → (CTm ins exc K tb gh).ins c C' → C = C' := by
  rintro c C C' ⟨_, rfl⟩ ⟨_, rfl⟩
  rfl
section
variable {P : Program} {w : World} {K : PySem.W.Frag} {mg : Str → Option Value} {base : Heap} {ins exc : List String} {cl : Cl} {k : Nat} {m : String}
/-- the classes that have a method m -/
theorem mto_nil : Mto P w K mg base (CTm ins exc K tb gh) cl k m [] := ⟨fun c h => nomatch h⟩
theorem mto_cons {c : String} {cs : List String} (h1 : Cls K (gaS K c)) (h2 : Meth K (gaS K c) (Str.ofString m) (He.ma K (gaS K c) (SO m))) (F : Cal P w K mg base (CTm ins exc K tb gh) cl k (.m c m) (He.ma K (gaS K c) (SO m))) (M : Mto P w K mg base (CTm ins exc K tb gh) cl k m cs) : Mto P w K mg base (CTm ins exc K tb gh) cl k m (c :: cs) :=
  ⟨fun d hd D hD => by
    rcases List.mem_cons.mp hd with rfl | hd
    · obtain ⟨_, rfl⟩ := hD
      exact ⟨_, h1, h2, F⟩
    · exact M.ex d hd D hD⟩
end
end Mi

set_option Elab.async false
set_option linter.all false
set_option maxRecDepth 100000
/-! Mo8: s.join(xs). -/
namespace Mi
open PySem PySem.Spec PyProof.Rows L2
theorem join_S : ∀ (s : List Char) (ts : List (List Char)), Txt.join (S2 s) (ts.map S2) = S2 (joinS s ts)
  | s, [] => by first | rfl | simp [Txt.join, joinS]
  | s, [x] => by first | rfl | simp [Txt.join, joinS]
  | s, x :: y :: r => by
    have ih := join_S s (y :: r)
    have je : ∀ (a : Str) (l : List Str), Txt.join a l = Str.join a l := fun a l => StrLaws.glued_eq_join a l
    rw [je] at ih ⊢
    have e : Str.join (S2 s) ((x :: y :: r).map S2) = S2 x ++ S2 s ++ Str.join (S2 s) ((y :: r).map S2) := rfl
    rw [e, ih, S2_app, S2_app]
    rfl
theorem strs_vals {K : PySem.W.Frag} {m : Nat → Addr} {N : Nat} {G : Hp} : ∀ {xs : List PV} {vs : List V} {ts : List (List Char)}, RelL K m N G xs vs → strsOf xs = some ts → vs = (ts.map S2).map V.str
  | _, _, ts, .nil, e => by
    simp [strsOf] at e
    subst e
    rfl
  | _, _, ts, .cons (x := x) a r, e => by
    cases x with
    | str s =>
      obtain rfl := a.str_inv
      rw [strsOf] at e
      cases q : strsOf _ with
      | none => rw [q] at e; simp at e
      | some t =>
        rw [q] at e
        simp at e
        subst e
        rw [strs_vals r q]
        rfl
    | _ => simp [strsOf] at e
theorem lenS_eq : ∀ ts : List (List Char), ((ts.map S2).map (·.length)).sum = lenS ts
  | [] => rfl
  | x :: r => by
    simp only [List.map_cons, List.sum_cons, lenS, lenS_eq r, S2_len]
section
variable {X : Cx} {CT : Cts} {W : WX}
theorem mt_join_b : MtR X "str.join" (rMv X.K CT W (mthV "join")) := by
  refine MtR.imp mt_join fun x vs H Q ⟨mm, G, h, px, pvs, σ, R, rx, rl, q⟩ => ?_
  have q : Post X.K CT (Rel X.K) W σ mm G h.length Q (joinV px pvs h) := q
  unfold joinV at q
  split at q
  · rename_i s y q0
    obtain rfl := rx.str_inv
    obtain ⟨v, rfl, rv⟩ := rl.one_inv
    split at q
    · rename_i ts et
      split at q
      · rename_i few
        obtain ⟨ys, e1, e2⟩ := Option.bind_eq_some_iff.mp et
        have len : ((ts.map S2).map (·.length)).sum + (ts.map S2).length * (S2 s).length ≤ 16777216 := by
          rw [lenS_eq, List.length_map, S2_len]
          exact few
        have fin : Q (.str (Txt.join (S2 s) (ts.map S2))) H := by
          rw [join_S]
          exact Post.now q R (.str _)
        unfold seqOf at e1
        split at e1
        · injection e1 with e1
          subst e1
          obtain ⟨a, ws, rfl, ht, r⟩ := rv.tup_inv
          have := strs_vals r e2
          subst this
          exact ⟨_, a, _, rfl, rfl, .inr (R.sub.sqT ht), len, fin⟩
        · obtain ⟨rfl, _⟩ := rv.ref_inv
          split at e1
          · rename_i zs ek
            injection e1 with e1
            subst e1
            obtain ⟨ws, hH, r⟩ := R.lst ek
            have := strs_vals r e2
            subst this
            exact ⟨_, _, _, rfl, rfl, .inl (.of hH), len, fin⟩
          · rename_i zs ek
            injection e1 with e1
            subst e1
            obtain ⟨ws, hH, r⟩ := R.frz ek
            have := strs_vals r e2
            subst this
            exact ⟨_, _, _, rfl, rfl, .inl hH, len, fin⟩
          · cases e1
        · cases e1
      · exact q.elim
    · exact q.elim
  · exact q.elim
end
end Mi

set_option Elab.async false
set_option linter.all false
set_option maxRecDepth 100000
/-! Mo9: walks of a written dict, of enumerate(text); {k: v, ..}; d.get(k, x). -/
namespace Mi
open PySem PySem.Spec PyProof.Rows L2
/-! ### for k in d, d written at the top -/
/-- these values, the heap as it is -/
def Itg (ks : List V) : It := ⟨fun i _ => i < ks.length, fun i H x H' => H' = H ∧ ks[i]? = some x, fun i _ => ks.length ≤ i⟩
/-- the keys of the entries -/
def KeysAre (es : Array DictEntry) (ks : List V) : Prop := es.size = ks.length ∧ ∀ (i : Nat) (x : V), ks[i]? = some x → ∃ en : DictEntry, es[i]? = some en ∧ L2.RelV x en.key
section
variable {P : Program} {w : World} {K : PySem.W.Frag} {tg : Expr} {d : Addr} {es : Array DictEntry} {n : Nat} {ks : List V}
theorem turn_gk (it : Addr) (D : KDict K w d es n) (hk : KeysAre es ks) : Turn P w K tg (Itg ks) [it] it (fun i h => h.IsKeyIter it d i es.size n) where
  mem := by simp
  obj := fun i h st b hb => by
    have e : b = it := by simpa using hb
    subst e
    obtain ⟨oi, e, c, dd⟩ := st
    exact ⟨oi, e, fun v z => by rw [dd] at z; cases z⟩
  keep := fun i h h' st k => st.at fun oi e => k it (by simp) oi e
  item := by
    intro X hP hw hK hc i pins s σ H E I hf st hg
    subst hP hw hK
    have hi : i < ks.length := hg
    obtain ⟨f0, f1, f2, f3, f4, f5⟩ := hf it (by simp)
    obtain ⟨en, hx, rx⟩ := hk.2 i _ (List.getElem?_eq_getElem hi)
    have hod := I.kIn _ _ D.at_
    refine next_key_item st hod rfl rfl hx fun h' st' sb => ?_
    have I1 : Inv X pins σ H { s with heap := h' } := I.turned (t' := s.toks) (fun b ob hb e => (sb.2 b hb).trans e) f0 f1 f3 f4 f5
    obtain ⟨oi, e, c, dd⟩ := id st'
    exact ⟨en.key, rfl, go_of (s := { s with heap := h' }) e c dd (by decide) ⟨_, H, I1, rx, ⟨rfl, List.getElem?_eq_getElem hi⟩, st', fun b hb => (hf b hb).1⟩⟩
  done := by
    intro X hP hw hK hc i pins s σ H E I hf st hg
    subst hP hw hK
    have hi : ks.length ≤ i := hg
    obtain ⟨f0, f1, f2, f3, f4, f5⟩ := hf it (by simp)
    have hod := I.kIn _ _ D.at_
    exact next_key_end (I.ok.hd hc) st hod rfl rfl (by rw [hk.1]; exact hi) fun h' eb => ⟨rfl, I.turned (t' := s.toks) (fun b ob hb e => eb b ob hb e) f0 f1 f3 f4 f5⟩
  self := fun A i s Q E st h => wpAny_pyIter_keyiter st h
end
/-- the keys, as values -/
def keysV (kvs : List (PV × PV)) : List V := kvs.map fun p => match p.1 with
  | .str s => .str (S2 s)
  | _ => .non
theorem gd_keys {K : PySem.W.Frag} : ∀ {es : List DictEntry} {kvs : List (PV × PV)}, gdEs K es kvs = true → es.length = (keysV kvs).length ∧ ∀ (i : Nat) (x : V), (keysV kvs)[i]? = some x → ∃ en : DictEntry, es[i]? = some en ∧ L2.RelV x en.key
  | [], [], _ => ⟨rfl, fun i x e => by simp [keysV] at e⟩
  | [], _ :: _, h => by simp [gdEs] at h
  | e :: r, [], h => by simp [gdEs] at h
  | e :: r, (k, v) :: t, h => by
    cases k with
    | str k =>
      rw [gdEs] at h
      split at h
      · rename_i x tk ek
        simp only [Bool.and_eq_true, decide_eq_true_eq] at h
        obtain ⟨⟨h1, h2⟩, h3⟩ := h
        obtain ⟨i1, i2⟩ := gd_keys h3
        refine ⟨by simp [keysV] at i1 ⊢; exact i1, fun i x e0 => ?_⟩
        cases i with
        | zero =>
          simp [keysV] at e0
          subst e0
          exact ⟨e, rfl, by rw [ek, h1]; exact ⟨_, rfl⟩⟩
        | succ i =>
          obtain ⟨en, a, b⟩ := i2 i x (by simpa [keysV] using e0)
          exact ⟨en, by simpa using a, b⟩
      · cases h
    | _ => simp [gdEs] at h
theorem GDi.keys {K : PySem.W.Frag} {w : World} {a : Addr} {kvs : List (PV × PV)} (D : GDi K w a kvs) : ∃ es n, KDict K w a es n ∧ KeysAre es (keysV kvs) ∧ gdEs K es.toList kvs = true := by
  obtain ⟨es, n, kd⟩ := D.kd
  have h := D.ck
  unfold gdB at h
  rw [kd.at_] at h
  have q := gd_keys h
  exact ⟨es, n, kd, ⟨by simpa using q.1, fun i x e => by
    obtain ⟨en, a, b⟩ := q.2 i x e
    exact ⟨en, by simpa using a, b⟩⟩, h⟩
/-- all keys are texts -/
theorem gd_strs {K : PySem.W.Frag} : ∀ {es : List DictEntry} {kvs : List (PV × PV)}, gdEs K es kvs = true → ∀ m N G, RelL K m N G (kvs.map (·.1)) (keysV kvs)
  | [], [], _, _, _, _ => .nil
  | [], _ :: _, h, _, _, _ => by simp [gdEs] at h
  | e :: r, [], h, _, _, _ => by simp [gdEs] at h
  | e :: r, (k, v) :: t, h, m, N, G => by
    cases k with
    | str k =>
      rw [gdEs] at h
      split at h
      · simp only [Bool.and_eq_true, decide_eq_true_eq] at h
        exact .cons (.str k) (gd_strs h.2 m N G)
      · cases h
    | _ => simp [gdEs] at h
theorem w_gk {K : PySem.W.Frag} {CT : Cts} {m0 : Nat → Addr} {N0 : Nat} {G0 : Hp} {xs : List PV} {vs : List V} (r : RelL K m0 N0 G0 xs vs) : IsW K CT (Itg vs) ⟨xs, []⟩ m0 N0 G0 :=
  ⟨fun j m G H h e t l R ok hj => by
    show j < vs.length
    rw [← r.length]; exact hj,
  fun m G H h e t l R ok => by
    show vs.length ≤ xs.length
    rw [← r.length]; exact Nat.le_refl _,
  fun j m G H h x H' e t l R ok hj y => by
    obtain ⟨e1, e2⟩ := y
    subst e1
    obtain ⟨w, e3, rw⟩ := r.get (List.getElem?_eq_getElem hj)
    rw [e2] at e3
    injection e3 with e3
    subst e3
    exact ⟨_, G, List.getElem?_eq_getElem hj, Sub.refl, R, rw.monoT e l t, fun _ _ => ⟨rfl, rfl⟩⟩⟩
section
variable {X : Cx} {CT : Cts} {cl : Cl} {W : WX} {tg : Expr} {pos p : Pos} {x : Str} {a : Addr}
theorem P_gkeys {kvs : List (PV × PV)} {ks : List PV} (hcl : GroC cl) (D : GDi X.K X.w a kvs) (hg : Gl X x) (hm : X.mg x = some (.ref a)) (hd : (x == ("__debug__" : Str)) = false) (hks : ks = kvs.map (·.1)) : PI X tg (.Name x p) (tI X.K CT cl W .val [.k (.tup ks)]) := ⟨fun pins s σ H R I hI => by
  subst hks
  obtain ⟨es, n, kd, hk, he⟩ := D.keys
  obtain ⟨m, G, h, ρ, Rr, sr, q⟩ := hI
  unfold itsE at q
  simp only [evs, ev, bind_ok, itsOf, ofVal] at q
  have r : RelL X.K m h.length G (kvs.map (·.1)) (keysV kvs) := gd_strs he m h.length G
  refine thn ((pe_glob (v := .ref a) hg hm (show L2.RelV (.ref a) (.ref a) from rfl) hd).run pins s σ H (fun v H1 => v = .ref a ∧ R (Itg (keysV kvs)) H1) I ⟨rfl, q m G H _ Ex.refl Sub.refl Rr (w_gk r)⟩) fun u s1 ⟨v, H1, I1, rv, ev, q1⟩ => ?_
  subst ev
  cases rv
  have hod := I1.kIn _ _ kd.at_
  refine iter_keys kd.low hod ⟨rfl, rfl, rfl⟩ rfl (pi_one (tk := s1.toks) I1 _ (turn_gk _ kd hk) ⟨_, Heap.get?_push_size _ rfl, rfl, rfl⟩ q1)⟩
end
/-! ### enumerate(text) -/
def Ites (x : Str) : It :=
  ⟨fun i _ => i < x.cps.size, fun i H v H' => ∃ T c, v = .ref T ∧ H T = none ∧ H' = upd H T (.tup [.int (i : Nat), .str ⟨#[c]⟩]) ∧ x.cps[i]? = some c, fun i _ => x.cps.size ≤ i⟩
theorem turn_enums {P : Program} {w : World} {K : PySem.W.Frag} {elts : List Expr} {kk : Nat} {tpos : Pos} (x : Str) (t : Tok) (e it : Addr) :
    Turn P w K (.Tuple elts kk tpos) (Ites x) [e, it] e (fun i h => (∃ old, IsEnum h e it ((i : Nat) : Int) old) ∧ h.IsStrIter it (strIterType x) x t i ∧ i ≤ x.cps.size ∧ e ≠ it) where
  mem := by simp
  obj := fun i h st b hb => by
    obtain ⟨⟨old, he⟩, ⟨o, ho, hc, hd⟩, _⟩ := st
    have e' : b = e ∨ b = it := by simpa using hb
    rcases e' with z | z
    · rw [z]; exact ⟨_, he, fun v q => nomatch q⟩
    · rw [z]; exact ⟨o, ho, fun v q => by rw [hd] at q; cases q⟩
  keep := fun i h h' st k => let ⟨⟨old, he⟩, ⟨o, ho, r⟩, hb, hne⟩ := st; ⟨⟨old, k e (by simp) _ he⟩, ⟨o, k it (by simp) o ho, r⟩, hb, hne⟩
  item := by
    intro X hP hw hK hc i pins s σ H E I hf st hg
    subst hP hw hK
    obtain ⟨⟨old, he⟩, hit, hb, hne⟩ := st
    have hi : i < x.cps.size := hg
    have D := Draws.text (prog := X.prog) (w := X.w) (A := X.A.in1) (I.ok.hd hc) it x t
    have hel : e < s.heap.objs.size := Heap.lt_size he
    have hil : it < s.heap.objs.size := by obtain ⟨_, q, _⟩ := hit; exact Heap.lt_size q
    refine wpAny_pyNext_enum_itemD D he hit hi hne (by simpa using hne) fun y h' tk hy ho hit' hT hsz hk => ?_
    obtain ⟨c, u, hcx, rfl⟩ := hy
    refine ⟨_, rfl, wpAny_letOwnedTupleGo_enum (s := { s with heap := h', toks := tk + 1 }) ho fun h'' he' sb => ?_⟩
    have hT2 : h''.get? s.heap.objs.size = some { cls := .type "tuple", data := .seq #[.int i tk, .str ⟨#[c]⟩ u] } := (sb.2 _ (Nat.ne_of_gt hel)).trans hT
    have new : ObjOk X.prog X.w (upd H s.heap.objs.size (.tup [.int (i : Nat), .str ⟨#[c]⟩])) h'' s.heap.objs.size (.tup [.int (i : Nat), .str ⟨#[c]⟩]) :=
      ⟨by show 2 ≤ sizeLine; decide, [.int i tk, .str ⟨#[c]⟩ u], .cons ⟨_, rfl⟩ (.cons ⟨_, rfl⟩ .nil), ⟨_, hT2, rfl, _, rfl⟩⟩
    have I1 : Inv X pins σ (upd H s.heap.objs.size (.tup [.int (i : Nat), .str ⟨#[c]⟩])) { s with heap := h'', toks := tk + 1 } :=
      I.turnedNew (ch := [e, it]) (fun b ob hb q => (sb.2 b (fun z => hb (by simp [z]))).trans (hk b ob (fun z => hb (by simp [z])) (fun z => hb (by simp [z])) q)) hf (Nat.le_refl _) new
    refine ⟨.ref s.heap.objs.size, _, I1, rfl, ⟨_, c, rfl, I.hok.fresh (Nat.le_refl _), rfl, hcx⟩, ⟨⟨.str ⟨#[c]⟩ u, ?_⟩, ?_, hi, hne⟩, fun b hb => ?_⟩
    · have e1 : ((i + 1 : Nat) : Int) = (i : Int) + 1 := by omega
      rw [e1]; exact he'
    · obtain ⟨o, ho', r⟩ := hit'
      exact ⟨o, (sb.2 it (Ne.symm hne)).trans ho', r⟩
    · have hb' : b < s.heap.objs.size := by
        have e' : b = e ∨ b = it := by simpa using hb
        rcases e' with z | z
        · rw [z]; exact hel
        · rw [z]; exact hil
      rw [upd_ne (Nat.ne_of_lt hb')]
      exact (hf b hb).1
  done := by
    intro X hP hw hK hc i pins s σ H E I hf st hg
    subst hP hw hK
    obtain ⟨⟨old, he⟩, hit, hb, hne⟩ := st
    have hi : x.cps.size ≤ i := hg
    have e0 : i = x.cps.size := Nat.le_antisymm hb hi
    subst e0
    obtain ⟨f0, f1, f2, f3, f4, f5⟩ := hf it (by simp)
    have D := Draws.text (prog := X.prog) (w := X.w) (A := X.A.in1) (I.ok.hd hc) it x t
    exact wpAny_pyNext_enum_endD D he hit fun h' eb => ⟨rfl, I.turned (t' := s.toks) (fun b o hb q => eb b o hb q) f0 f1 f3 f4 f5⟩
  self := fun A i s Q E st h => let ⟨⟨_, he⟩, _⟩ := st; wpAny_pyIter_enum he h
def iEnums (K : PySem.W.Frag) (ta : TA) : TI := fun σ H R => ta σ H fun vs H1 => ∃ x, vs = [.str x] ∧ R (Ites x) H1
theorem pi_enums {X : Cx} {e : Expr} {ta : TA} {p pos tpos : Pos} {elts : List Expr} {kk : Nat} (hg : Gl X "enumerate") (hm : X.mg "enumerate" = none) (ha : PA X [e] ta) (hs : starEach [e] X.env = [(false, eval e X.env)] := by rfl) :
    PI X (.Tuple elts kk tpos) (.Call (.Name "enumerate" p) [e] [] pos) (iEnums X.K ta) := by
  refine ⟨fun pins s σ H R I h => ?_⟩
  refine Call_ (ld_blt I hg hm boot_enumerate (PyProof.Rows.callWith_type1 (thn (ha.run pos pins s σ H _ I h) fun us s1 ⟨vs, H1, I1, r1, q1⟩ => ?_) hs rfl))
  obtain ⟨x, ex, q⟩ := q1
  subst ex
  cases r1 with
  | cons r rr =>
    cases rr
    obtain ⟨t, rfl⟩ := r
    refine call_enumerate_str fun h' he hit hsz hk => wpAny_pyIter_enum he ?_
    have I2 : Inv X pins σ H1 { s1 with heap := h' } := I1.kept (t' := s1.toks) hk
    refine ⟨s1.heap.objs.size + 1, [s1.heap.objs.size + 1, s1.heap.objs.size], _, _, H1, rfl, I2, turn_enums x t (s1.heap.objs.size + 1) s1.heap.objs.size, ⟨⟨.none, he⟩, hit, Nat.zero_le _, Nat.succ_ne_self _⟩, fun b hb => ?_, q⟩
    have e' : b = s1.heap.objs.size + 1 ∨ b = s1.heap.objs.size := by simpa using hb
    have hle : s1.heap.objs.size ≤ b := by
      rcases e' with z | z
      · rw [z]; exact Nat.le_add_right _ _
      · rw [z]; exact Nat.le_refl _
    exact I1.fpOk hle (I1.hok.fresh hle)
theorem w_enums {K : PySem.W.Frag} {CT : Cts} {m0 : Nat → Addr} {N0 : Nat} {G0 : Hp} {s : List Char} : IsW K CT (Ites (S2 s)) ⟨enumL 0 (s.map fun c => .str [c]), []⟩ m0 N0 G0 := by
  have hz : (S2 s).cps.size = s.length := by simp [S2]
  have hl : (enumL 0 (s.map fun c => PV.str [c])).length = s.length := by rw [enumL_len, List.length_map]
  refine ⟨fun j m G H h e t l R ok hj => ?_, fun m G H h e t l R ok => ?_, fun j m G H h x H' e t l R ok hj y => ?_⟩
  · show j < (S2 s).cps.size
    rw [hz, ← hl]; exact hj
  · show (S2 s).cps.size ≤ _
    rw [hz, ← hl]; exact Nat.le_refl _
  · obtain ⟨T, c, e1, hT, e2, e3⟩ := y
    subst e1 e2
    have hj' : j < s.length := by rw [← hl]; exact hj
    have e4 : c = s[j].toNat := by
      have : (S2 s).cps[j]? = some (s[j].toNat) := by simp [S2, hj']
      rw [this] at e3
      injection e3 with e3
      exact e3.symm
    subst e4
    obtain ⟨p1, p2, p3⟩ := pair_rel (N := 0) R hT (.int (j : Nat)) (.str [s[j]])
    refine ⟨_, _, enumL_get 0 _ j (.str [s[j]]) (by simp [hj']), p1, p2, ?_, keep_two hT⟩
    rw [Nat.zero_add]
    exact p3
section
variable {X : Cx} {CT : Cts} {cl : Cl} {W : WX} {e : Expr} {c : E} {pos p : Pos}
theorem P_enums {elts : List Expr} {kk : Nat} {tpos : Pos} (hcl : GroC cl) (hg : Gl X "enumerate") (hm : X.mg "enumerate" = none) (ha : PA X [e] (tA X.K CT cl W [c])) (hs : starEach [e] X.env = [(false, eval e X.env)]) : PI X (.Tuple elts kk tpos) (.Call (.Name "enumerate" p) [e] [] pos) (tI X.K CT cl W .enums [c]) := PIimp (pi_enums hg hm ha hs) fun σ H R hI =>
  tI_first hcl hI fun xs vs h1 m1 G1 H1 i R1 rl ei q => by
    unfold itsOf at ei
    simp only at ei
    split at ei
    · rename_i s
      obtain ⟨v, rfl, rv⟩ := rl.one_inv
      obtain rfl := rv.str_inv
      split at ei
      · injection ei with ei
        subst ei
        exact ⟨_, rfl, q _ w_enums⟩
      · cases ei
    · cases ei
end
/-! ### {k: v, ..} -/
def flatE : List (E × E) → List E
  | [] => []
  | (a, b) :: r => a :: b :: flatE r
section
variable {X : Cx} {CT : Cts} {cl : Cl} {W : WX} {pos : Pos}
def trsOf (K : PySem.W.Frag) (CT : Cts) (cl : Cl) (W : WX) (cps : List (E × E)) : List (TE × TE) := cps.map fun p => (tE K CT cl W p.1, tE K CT cl W p.2)
theorem D_nil : PPs X pos [] [] (trsOf X.K CT cl W []) := pps_nil
theorem D_cons {k v : Expr} {ks : List (Option Expr)} {vs : List Expr} {a b : E} {cps : List (E × E)} (hk : PE X k (tE X.K CT cl W a)) (hv : PE X v (tE X.K CT cl W b)) (hr : PPs X pos ks vs (trsOf X.K CT cl W cps)) : PPs X pos (some k :: ks) (v :: vs) (trsOf X.K CT cl W ((a, b) :: cps)) := pps_cons hk hv hr
inductive RelP (K : PySem.W.Frag) (m : Nat → Addr) (N : Nat) (G : Hp) : List PV → List (V × V) → Prop
  | nil : RelP K m N G [] []
  | cons {a b : PV} {x y : V} {r : List PV} {t : List (V × V)} (h1 : Rel K m N G a x) (h2 : Rel K m N G b y) (h3 : RelP K m N G r t) : RelP K m N G (a :: b :: r) ((x, y) :: t)
theorem tP_first {γ δ : Type} {rel2 : (Nat → Addr) → Nat → Hp → γ → δ → Prop} {Q : δ → Hp → Prop} {σ : L2.St} {ρ : Mi.Env} (hc : GroC cl) : ∀ (cps : List (E × E)) {Q1 : List (V × V) → Hp → Prop} {f : List PV → PH → R γ} {m : Nat → Addr} {G H : Hp} {h : PH}, HR X.K CT m G H h → SR X.K m h.length G ρ σ →
    Post X.K CT rel2 W σ m G h.length Q ((evs cl (flatE cps) ρ h).bind f) →
    (∀ x v h1 m1 G1 H1, Ex m m1 h.length → Sub G G1 → h.length ≤ h1.length → HR X.K CT m1 G1 H1 h1 → SR X.K m1 h1.length G1 ρ σ → RelP X.K m1 h1.length G1 x v → Post X.K CT rel2 W σ m1 G1 h1.length Q (f x h1) → Q1 v H1) → tPairs (trsOf X.K CT cl W cps) σ H Q1
  | [], Q1, f, m, G, H, h, R, s, p, k => by
    simp only [flatE, evs, bind_ok] at p
    exact k _ _ h m G H Ex.refl Sub.refl (Nat.le_refl _) R s .nil p
  | (a, b) :: cps, Q1, f, m, G, H, h, R, s, p, k => by
    have p' : Post X.K CT rel2 W σ m G h.length Q ((ev cl a ρ h).bind fun x h1 => (ev cl b ρ h1).bind fun y h2 => (evs cl (flatE cps) ρ h2).bind fun xs h3 => f (x :: y :: xs) h3) := by
      have e : (evs cl (flatE ((a, b) :: cps)) ρ h).bind f = ((ev cl a ρ h).bind fun x h1 => (ev cl b ρ h1).bind fun y h2 => (evs cl (flatE cps) ρ h2).bind fun xs h3 => f (x :: y :: xs) h3) := by
        simp only [flatE, evs]
        cases ev cl a ρ h with
        | ok x h1 =>
          simp only [bind_ok]
          cases ev cl b ρ h1 with
          | ok y h2 =>
            simp only [bind_ok]
            cases evs cl (flatE cps) ρ h2 <;> rfl
          | _ => rfl
        | _ => rfl
      rw [← e]
      exact p
    show tE X.K CT cl W a σ H fun x H1 => tE X.K CT cl W b σ H1 fun y H2 => tPairs (trsOf X.K CT cl W cps) σ H2 fun ps H3 => Q1 ((x, y) :: ps) H3
    exact tE_first hc R s p' fun x v h1 m1 G1 H1 x1 g1 l1 R1 s1 r1 q1 => tE_first hc R1 s1 q1 fun y u h2 m2 G2 H2 x2 g2 l2 R2 s2 r2 q2 =>
      tP_first hc cps (f := fun xs h3 => f (x :: y :: xs) h3) R2 s2 q2 fun xs vs h3 m3 G3 H3 x3 g3 l3 R3 s3 r3 q3 =>
        k _ _ h3 m3 G3 H3 (x1.trans (x2.trans x3 l2) l1) (g1.trans (g2.trans g3)) (Nat.le_trans l1 (Nat.le_trans l2 l3)) R3 s3
          (.cons ((r1.mono x2 l2 g2).mono x3 l3 g3) (r2.mono x3 l3 g3) r3) q3
theorem relP_kvs {K : PySem.W.Frag} {m : Nat → Addr} {N : Nat} {G : Hp} : ∀ {xs : List PV} {ps : List (V × V)}, RelP K m N G xs ps → ∀ {kvs : List (PV × PV)}, kvsOf xs = some kvs → (kvs.all fun p => keyOk p.1) = true → ∃ ks : List (Key × V), ps = ks.map (fun kv => (kV kv.1, kv.2)) ∧ RelD K m N G kvs ks
  | _, _, .nil, kvs, e, _ => by
    simp [kvsOf] at e
    subst e
    exact ⟨[], rfl, trivial⟩
  | _, _, .cons (a := a) (b := b) h1 h2 h3, kvs, e, ok => by
    rw [kvsOf] at e
    cases q : kvsOf _ with
    | none => rw [q] at e; simp at e
    | some t =>
      rw [q] at e
      simp at e
      subst e
      rw [List.all_cons, Bool.and_eq_true] at ok
      obtain ⟨ks, e1, e2⟩ := relP_kvs h3 q ok.2
      obtain ⟨g, rfl, hk⟩ := relK_of h1 ok.1
      exact ⟨(g, _) :: ks, by rw [e1]; rfl, hk, h2, e2⟩
theorem relD_length {K : PySem.W.Frag} {m : Nat → Addr} {N : Nat} {G : Hp} {kvs : List (PV × PV)} {ks : List (Key × V)} (r : RelD K m N G kvs ks) : kvs.length = ks.length := relD_len r
theorem relD_all {K : PySem.W.Frag} {m : Nat → Addr} {N : Nat} {G : Hp} : ∀ {more : List (PV × PV)} {ms : List (Key × V)} {kvs : List (PV × PV)} {ks : List (Key × V)}, RelD K m N G more ms → RelD K m N G kvs ks → RelD K m N G (putAll kvs more) (mergeK ks ms)
  | [], [], _, _, _, r => r
  | (k, x) :: t, (g, v) :: u, kvs, ks, ⟨h1, h2, h3⟩, r => by
    rw [putAll]
    show RelD K m N G (putAll (Mi.putK k x kvs) t) (mergeK (L2.putK ks g v) u)
    exact relD_all h3 (relD_put h1 h2 r)
theorem I_dsp {keys : List (Option Expr)} {values : List Expr} {es : List E} {cps : List (E × E)} (hcl : GroC cl) (D : PPs X pos keys values (trsOf X.K CT cl W cps)) (he : es = flatE cps) (hall : keys.all (·.isSome) = true) (hl : keys.length = values.length) (h0 : keys ≠ []) (h15 : keys.length ≤ 15) :
    PE X (.Dict keys values pos) (tE X.K CT cl W (.dsp es)) := by
  subst he
  refine PEimp (pe_disp D hall hl h0 h15) fun σ H Q ⟨m, G, h, ρ, R, s, q⟩ pp hp => ?_
  simp only [ev] at q
  have R' := R.new (o := .dic []) hp (keep_upd hp) ⟨[], upd_same, trivial⟩ rfl
  have hN : (h ++ [PO.dic []]).length = h.length + 1 := by simp
  have s' : SR X.K (mx m h.length pp) (h ++ [PO.dic []]).length G ρ σ := s.mono mx_ex (by rw [hN]; omega) Sub.refl
  refine tP_first hcl cps R' s' (Post.later q mx_ex (by rw [hN]; omega) Sub.refl) fun xs ps h1 m1 G1 H1 x1 g1 l1 R1 s1 r1 q1 => ?_
  split at q1
  · rename_i kvs ek
    split at q1
    · rename_i ok
      simp only [Bool.and_eq_true, decide_eq_true_eq] at ok
      obtain ⟨⟨ok1, ok2⟩, ok3⟩ := ok
      obtain ⟨ks, e1, e2⟩ := relP_kvs r1 ek ok1
      have em : m1 h.length = pp := by rw [x1 h.length (by rw [hN]; omega), mx_new]
      obtain ⟨ks0, hH, r0⟩ := R1.dic ok3
      have k0 : ks0 = [] := by
        cases ks0 with
        | nil => rfl
        | cons a t => exact r0.elim
      subst k0
      rw [em] at hH
      refine ⟨hH, ks, e1, by rw [← relD_len e2]; exact ok2, ?_⟩
      have z := R1.put (u := .dK (mergeK [] ks)) ok3 rfl (o' := .dic (putAll [] kvs)) rfl fun H' e' => ⟨_, e', relD_all e2 trivial⟩
      rw [em] at z
      refine q1 m1 G1 _ (.ref pp) Ex.refl Sub.refl z ?_
      have zz : Rel X.K m1 (h1.set h.length (.dic (putAll [] kvs))).length G1 (.ref h.length) (.ref (m1 h.length)) := .ref (by rw [List.length_set]; rw [hN] at l1; omega)
      rw [em] at zz
      exact zz
    · exact q1.elim
  · exact q1.elim
end
/-! ### d.get(k), d.get(k, x) -/
theorem tyM_dict {K : PySem.W.Frag} {CT : Cts} {m : String} (hm : ∀ x h, mok m x h = isD x h) : TyM K CT m "dict" := fun x v mm G H h ok R r => by
  rw [hm] at ok
  obtain ⟨n, xs, rfl, e⟩ := isD_inv ok
  obtain ⟨rfl, _⟩ := r.ref_inv
  obtain ⟨vs, hH, _⟩ := R.dic e
  exact .inr (.inr (.inl ⟨rfl, .inl ⟨_, hH⟩⟩))
section
variable {X : Cx} {CT : Cts} {W : WX}
theorem mt_get_b (hu : X.A.units + 1 < cLine) : MtR X "dict.get" (rMv X.K CT W (mthV "get")) := fun pins s σ H x vs u us Q I rx rs ⟨mm, G, h, px, pvs, σ', R, rpx, rl, q⟩ => by
  have q : Post X.K CT (Rel X.K) W σ' mm G h.length Q (getV px pvs h) := q
  unfold getV at q
  split at q
  · rename_i n k _
    obtain ⟨rfl, hn⟩ := rpx.ref_inv
    obtain ⟨v, rfl, rv⟩ := rl.one_inv
    split at q
    · rename_i kvs ek
      split at q
      · rename_i ok
        obtain ⟨ks, hH, rd⟩ := R.dic ek
        obtain ⟨g, rfl, hk⟩ := relK_of rv ok
        cases rx
        obtain ⟨u1, rfl, ru⟩ : ∃ u1, us = [u1] ∧ L2.RelV (kV g) u1 := by
          cases rs with
          | cons a b => cases b; exact ⟨_, rfl, a⟩
        refine d_get1 hu I (DGet.k (k := g) hH) ru fun w' s' I' rw' => ⟨_, H, I', rw', ?_⟩
        obtain ⟨i1, i2⟩ := lookK_val hk rd
        cases e : lookK k kvs with
        | none =>
          rw [e] at q
          rw [i2 e]
          exact Post.now q R .non
        | some y =>
          rw [e] at q
          obtain ⟨v, e1, e2⟩ := i1 y e
          rw [e1]
          exact Post.now q R e2
      · exact q.elim
    · exact q.elim
  · rename_i n k d _
    obtain ⟨rfl, hn⟩ := rpx.ref_inv
    obtain ⟨v, v2, rfl, rv, rv2⟩ := rl.two_inv
    split at q
    · rename_i kvs ek
      split at q
      · rename_i ok
        obtain ⟨ks, hH, rd⟩ := R.dic ek
        obtain ⟨g, rfl, hk⟩ := relK_of rv ok
        cases rx
        obtain ⟨u1, u2, rfl, ru, ru2⟩ : ∃ u1 u2, us = [u1, u2] ∧ L2.RelV (kV g) u1 ∧ L2.RelV v2 u2 := by
          cases rs with
          | cons a b =>
            cases b with
            | cons c d => cases d; exact ⟨_, _, rfl, a, c⟩
        refine d_get2 hu I (DGet.k (k := g) hH) ru ru2 fun w' s' I' rw' => ⟨_, H, I', rw', ?_⟩
        obtain ⟨i1, i2⟩ := lookK_val hk rd
        cases e : lookK k kvs with
        | none =>
          rw [e] at q
          rw [i2 e]
          exact Post.now q R rv2
        | some y =>
          rw [e] at q
          obtain ⟨v, e1, e2⟩ := i1 y e
          rw [e1]
          exact Post.now q R e2
      · exact q.elim
    · exact q.elim
  · exact q.elim
end
end Mi

set_option Elab.async false
set_option linter.all false
set_option maxRecDepth 100000
set_option maxHeartbeats 4000000
/-! Mk1: own errors made by a keyword. -/
namespace PySem
namespace HandSPX
open Builtin Builtin.ObjectAttr
section
variable {M : Model} {A : Around} {E : Value → Shared → Prop} {hp : Heap} {gs : Array GenState} {dr : Drawn} {tk : Nat} {osx : OsState}
variable {nm q : Str} {C N : Addr} {bs bm bmB : List Value} {hdct : Bool} {sn : List Str} {sub : List Value} {ab : Bool} {col : Option Bool} {dd : Option Addr} {k0 k1 k2 k3 k5 : Option Value} {B newId initId : String}
theorem kw_check (F : ExcBaseFacts B newId initId bmB) (hT : ∀ Y : String, bm.contains (.type Y) = bmB.contains (.type Y)) {kws : List (Str × Value)} {Q : Unit → Shared → Prop}
    (oC : hp.get? C = some (excClassObj nm q C N bs bm hdct sn sub ab col dd k0 k1 k2 k3 k5 newId)) (fin : Q () ⟨hp, gs, dr, tk, osx⟩) : wpAny M A (checkBuiltinCall newId ⟨[.ref C], kws⟩) Q E ⟨hp, gs, dr, tk, osx⟩ := by
  have inB : (Value.ref C :: bm).contains (.type B) = true := by rw [List.contains_cons, hT, F.hasB, Bool.or_true]
  have noSt := F.noStar
  simp only [checkBuiltinCall, F.newKind, F.newSplit, F.newRow]
  repeat (first
    | refine wpAny_loadPart_at oC ?_
    | (refine wpAny_isSubtype_exc oC ?_; rw [inB])
    | refine wpAny_staticBase_exc oC ?_
    | refine wpAny_madeBy_exc oC ?_
    | simp only [bne_self_eq_false, Bool.false_eq_true, if_false]
    | wp_step)
  exact fin
end
section
variable {prg : Program} {wd : World} {A : Around} {E : Value → Shared → Prop} {RR : Result → Shared → Prop} {hp : Heap} {gs : Array GenState} {dr : Drawn} {tk : Nat} {osx : OsState}
variable {nm q : Str} {C N : Addr} {bs bm bmB : List Value} {hdct : Bool} {sn : List Str} {sub : List Value} {ab : Bool} {col : Option Bool} {dd : Option Addr} {k0 k1 k2 k3 k5 : Option Value} {B newId initId : String}
theorem kw_new (F : ExcBaseFacts B newId initId bmB) (hT : ∀ Y : String, bm.contains (.type Y) = bmB.contains (.type Y)) {kws : List (Str × Value)}
    (oC : hp.get? C = some (excClassObj nm q C N bs bm hdct sn sub ab col dd k0 k1 k2 k3 k5 newId))
    (fin : RR (.ok (.ret (.ref (hp.objs.size + 1)))) ⟨(hp.push (W.kdv_tup [])).push (excO C hp.objs.size), gs, dr, tk, osx⟩) :
    codeAny (model prg wd) A (.builtin newId ⟨[.ref C], kws⟩) RR ⟨hp, gs, dr, tk, osx⟩ := by
  have fE := F.ends
  have inB : (Value.ref C :: bm).contains (.type B) = true := by rw [List.contains_cons, hT, F.hasB, Bool.or_true]
  have inA : (Value.ref C :: bm).contains (.type "AttributeError") = false := by rw [List.contains_cons, hT, F.noAttr] <;> rfl
  have inN : (Value.ref C :: bm).contains (.type "NameError") = false := by rw [List.contains_cons, hT, F.noName] <;> rfl
  refine codeAny_builtinAt F.entry ?_
  unfold Builtin.«BaseException.__new__»
  refine wpAt_bind ?_
  show wpAt _ _ _ (stack >>= _) _ _ _
  refine wpAt_bind (wpAt_stack fun pp below => wpAt_of_wpAny ?_)
  wp_walk
  refine wpAt_of_wpAny ?_
  rw [F.owner]
  repeat (first
    | with_reducible refine wpAny_madeHere_exc F.canon oC ?_
    | with_reducible refine wpAny_loadPart_at oC ?_
    | (with_reducible refine wpAny_isSubtype_exc oC ?_; first | rw [inB] | rw [inA] | rw [inN])
    | wp_step)
  show RR _ _
  rw [Heap.size_push]
  exact fin
theorem kw_type (F : ExcBaseFacts B newId initId bmB) (hT : ∀ Y : String, bm.contains (.type Y) = bmB.contains (.type Y)) {kws : List (Str × Value)} {fI : Addr} {Q : Fin → Shared → Prop}
    (oC : hp.get? C = some (excClassObj nm q C N bs bm hdct sn sub ab col dd k0 k1 k2 k3 k5 newId))
    (li : W.Looks (model prg wd) hp (typeLookup (.ref C) "__init__") (some (.ref fI))) (lb : ∀ slf, W.Looks (model prg wd) hp (bindSpecial (.ref fI) slf) (.ref fI, [slf]))
    (go : codeAny (model prg wd) A (.call (.ref fI) ⟨[.ref (hp.objs.size + 1)], kws⟩)
      (fun r s' => match r with | .ok (.ret v) => v = .none ∧ Q (.done (.ret (.ref (hp.objs.size + 1)))) s' | .ok _ => False | .error e => E e s')
      ⟨(hp.push (W.kdv_tup [])).push (excO C hp.objs.size), gs, dr, tk, osx⟩) :
    wpAny (model prg wd) A (Builtin.«type.__call__» ⟨[.ref C], kws⟩) Q E ⟨hp, gs, dr, tk, osx⟩ := by
  repeat (first
    | with_reducible refine wpAny_loadPart_at oC ?_
    | with_reducible refine wpAny_madeBy_exc oC ?_
    | wp_step)
  refine codeAny_call_builtin_code (Code.quiet_builtin _ F.quiet) (kw_check F hT oC ?_)
  refine kw_new F hT oC ?_
  show wpAny _ _ _ _ _ _
  have up : ∀ b o, hp.get? b = some o → ((hp.push (W.kdv_tup [])).push (excO C hp.objs.size)).get? b = some o := fun b o e => Heap.get?_push_of_some _ (Heap.get?_push_of_some _ e)
  have oC2 := up _ _ oC
  have oE : ((hp.push (W.kdv_tup [])).push (excO C hp.objs.size)).get? (hp.objs.size + 1) = some (excO C hp.objs.size) := by heap_get
  have inC : (Value.ref C :: bm).contains (.ref C) = true := by simp
  have li2 := li.keeps up
  have lb2 := (lb (.ref (hp.objs.size + 1))).keeps up
  unfold isInstance
  repeat (first
    | with_reducible refine wpAny_loadPart_at oE ?_
    | (with_reducible refine wpAny_isSubtype_exc oC2 ?_; rw [inC])
    | wp_step)
  show wpAny _ _ (typeLookup (.ref C) _) _ _ _
  refine li2.at ?_
  refine wpAny_holding (wpAny_bind (lb2.at ?_))
  refine wpAny_bind (wpAny_call (codeAny_mono go fun r s' z => ?_))
  rcases r with e | (v | _ | _ | _) <;> first | exact z | exact z.elim | skip
  obtain ⟨rfl, z⟩ := z
  first
    | exact wpAny_pure (wpAny_pure z)
    | (wp_walk <;> exact z)
/-- the class called with a keyword -/
theorem kw_call (F : ExcBaseFacts B newId initId bmB) (hT : ∀ Y : String, bm.contains (.type Y) = bmB.contains (.type Y)) {kws : List (Str × Value)} {fI : Addr}
    (oC : hp.get? C = some (excClassObj nm q C N bs bm hdct sn sub ab col dd k0 k1 k2 k3 k5 newId))
    (li : W.Looks (model prg wd) hp (typeLookup (.ref C) "__init__") (some (.ref fI))) (lb : ∀ slf, W.Looks (model prg wd) hp (bindSpecial (.ref fI) slf) (.ref fI, [slf]))
    (go : codeAny (model prg wd) (A.under (.builtin "type.__call__" ⟨[.ref C], kws⟩)) (.call (.ref fI) ⟨[.ref (hp.objs.size + 1)], kws⟩) (W.InitBack (hp.objs.size + 1) RR)
      ⟨(hp.push (W.kdv_tup [])).push (excO C hp.objs.size), gs, dr, tk, osx⟩) :
    codeAny (model prg wd) A (.call (.ref C) ⟨[], kws⟩) RR ⟨hp, gs, dr, tk, osx⟩ := by
  have g1 := tc_lookup
  have g2 := tc_bind (.ref C)
  have tyC : (⟨hp, gs, dr, tk, osx⟩ : Shared).TypeIs (.ref C) "type" := ⟨_, oC, rfl⟩
  refine codeAny_of_tree ?_
  show wpAny _ _ (callAny (.ref C) _) _ _ _
  repeat (any_goals (first
    | assumption
    | with_reducible refine wpAny_loadPart_at oC ?_
    | wp_step))
  refine ⟨rfl, ?_⟩
  refine codeAny_call_builtin_at (Code.quiet_builtin _ (by decide +kernel)) entry_typeCall (wpAny_check_type_call_sub oC (kw_type F hT oC li lb ?_))
  refine codeAny_mono go fun r s' z => ?_
  rcases r with e | (v | _ | _ | _) <;> exact z
end
end HandSPX
end PySem

set_option Elab.async false
set_option linter.all false
set_option maxRecDepth 100000
/-! Mk2: own errors as values. -/
namespace Mi
open PySem PySem.Spec PyProof.Rows L2
section
variable {X : Cx} {CT : Cts} {cl : Cl} {W : WX} {e : Expr} {c : E} {cs : List E} {pos p : Pos}
/-- one more object that never changes: an error -/
theorem HR.exn {K : PySem.W.Frag} {m : Nat → Addr} {G H : Hp} {h : PH} {n : String} {C a : Addr} {d : Option Addr} {fs : List (String × PV)} (R : HR K CT m G H h) (ct : CT.exc n C) (na : H a = none) (hf : ExF K m h.length G fs d) :
    HR K CT (mx m h.length a) (upd G a (EXO (.ref C) d a)) (upd H a (EXO (.ref C) d a)) (h ++ [.exn n fs]) ∧ Sub G (upd G a (EXO (.ref C) d a)) ∧ Rel K (mx m h.length a) (h ++ [PO.exn n fs]).length (upd G a (EXO (.ref C) d a)) (.ref h.length) (.ref a) := by
  obtain ⟨R2, sg⟩ := R.newT (u := EXO (.ref C) d a) na
  refine ⟨R2.newF ⟨C, d, ct, upd_same, hf.mono mx_ex (Nat.le_succ _) sg⟩ rfl, sg, ?_⟩
  have z : Rel K (mx m h.length a) (h ++ [PO.exn n fs]).length (upd G a (EXO (.ref C) d a)) (.ref h.length) (.ref (mx m h.length a h.length)) := .ref (by simp)
  rw [mx_new] at z
  exact z
/-- C(e), C an own error without an __init__ of its own -/
theorem I_mkx {n : String} {C : Addr} {bmB : List Value} {B newId initId : String} {x : Str} (hcl : GroC cl) (ct : CT.exc n C) (F : ExcBaseFacts B newId initId bmB) (q : PySem.W.excIn X.K C bmB newId = true) (gC : X.mg x = some (.ref C)) (kC : PySem.W.keepIn X.K (.ref C) = true) (hg : Gl X x)
    (he : PE X e (tE X.K CT cl W c)) (hs : starEach [e] X.env = (false, eval e X.env) :: starEach [] X.env) (hdb : (x == ("__debug__" : Str)) = false) :
    PE X (.Call (.Name x p) [e] [] pos) (tE X.K CT cl W (.mkx n [c])) := by
  refine ⟨fun pins s σ H Q I ⟨m, G, h, ρ, R, sr, z⟩ => ?_⟩
  simp only [ev, evs] at z
  have z2 : Post X.K CT (Rel X.K) W σ m G h.length Q ((ev cl c ρ h).bind fun y h1 => .ok (.ref h1.length) (h1 ++ [.exn n []])) := by
    cases q1 : ev cl c ρ h with
    | ok y h1 =>
      rw [q1] at z
      simpa [szl] using z
    | exc y h1 =>
      rw [q1] at z
      exact z
    | bad =>
      rw [q1] at z
      exact z
  refine wpAny_Call_Name_kw (ld_glob I hg gC ?_ hdb)
  refine PySem.W.callWith_K (h₀ := X.base) I.ok.mod.kin kC ?_ hs (by rfl)
  rw [hs]
  show wpAny _ _ (spliced ((false, eval e X.env) :: backTo pos (starEach [] X.env))) _ _ s
  refine Calls.spliced_cons (thn (he.run pins s σ H _ I (tE_first (Q1 := fun _ H1 => ∃ m1 G1 h1, HR X.K CT m1 G1 H1 h1 ∧ Post X.K CT (Rel X.K) W σ m1 G1 h1.length Q (.ok (.ref h1.length) (h1 ++ [.exn n []]))) hcl R sr z2 fun y v h1 m1 G1 H1 _ _ _ R1 _ _ q1 => ⟨m1, G1, h1, R1, q1⟩)) fun u s1 ⟨v, H1, I1, r1, m1, G1, h1, R1, q1⟩ => ?_)
  refine Calls.spliced_nil ⟨I1.kIn, ?_⟩
  show wpAny _ _ (call (.ref C) [u]) _ _ _
  obtain ⟨bm, N, nm, qn, bs, hdct, sn, sub, ab, col, dd, k0, k1, k2, k3, k5, mN, hC, hN, hni, T⟩ := exc_obj I1.kIn q
  refine wpAny_call_exc_subT F T hC hN hni (fun h' a hm => ?_) (by show 1 ≤ sizeLine; rw [sizeLine_eq]; omega)
  have na : H1 a = none := I1.hok.gone hm.new
  obtain ⟨t, ht, _, _⟩ := hm.there
  obtain ⟨R2, sg, rr⟩ := R1.exn (d := none) (fs := []) ct na (.inl ⟨rfl, rfl⟩)
  exact ⟨.ref a, upd H1 a (EXO (.ref C) none a), I1.laidN hm.keeps hm.new na (exo2_ok ht ⟨rfl, rfl⟩ rfl), rfl, q1 _ _ _ _ mx_ex sg R2 rr⟩
/-- an own __init__ called by its keyword -/
def KB1 (fd : FuncData) (f : Str) : Prop := ∀ (s : Shared) (a u : Value), BindsTo s fd ⟨[a], [(f, u)]⟩ [(("self" : Str), a), (f, u)]
theorem kb1_of {K : PySem.W.Frag} {x qual f : Str} {st : Stmt} {g : Addr} {fd : FuncData} (F : Fun K x qual st g fd)
    (h : ∀ (kV doc pm : Value) (an : Option Addr) (cdv ct a u : Value), bindArgs (PySem.W.fnOf x qual (defArgs st) (defBody st) (defScope st) .none kV doc pm an cdv ct) ⟨[a], [(f, u)]⟩ = pure [(("self" : Str), a), (f, u)]) : KB1 fd f := by
  obtain ⟨oc, od, kV, doc, pm, an, cdv, ct, osl, rfl, lk, hcd⟩ := F.ex
  exact fun s a u => .of_eq (h kV doc pm an cdv ct a u)
structure LowK (P : Program) (w : World) (K : PySem.W.Frag) (mg : Str → Option Value) (base : Heap) (x f : Str) (C : Addr) : Prop where
  gC : mg x = some (.ref C)
  ox : OexC K C
  ini : ∃ (g : Addr) (fd : FuncData), PySem.W.findIn K (.ref C) "__init__" = some (some (.ref g)) ∧ PySem.W.typeIn K (.ref g) = some (.type "function") ∧ FnOk P w K mg base CX0 1 g fd ["self", f] (spInit K C f) ∧ KB1 fd f
/-- C(f = e), C an own error whose __init__ keeps f -/
theorem I_mkxi {n f : String} {x : Str} {C : Addr} {k : Nat} {kpos : Pos} (hcl : GroC cl) (ct : CT.exc n C) (L : LowK X.prog X.w X.K X.mg X.base x (Str.ofString f) C) (hr : Room (k + 2) X.A) (hg : Gl X x) (ha : L2.PK X [⟨some (Str.ofString f), e, kpos⟩] (tA X.K CT cl W [c])) (hdb : (x == ("__debug__" : Str)) = false)
    (hks : (backToKw pos (keywordEach [⟨some (Str.ofString f), e, kpos⟩] X.env)).filterMap (·.1) = [Str.ofString f]) (hall : (backToKw pos (keywordEach [⟨some (Str.ofString f), e, kpos⟩] X.env)).all (·.1.isSome) = true)
    (hpl : ((backTo pos (starEach [] X.env)).any (·.1) || (backToKw pos (keywordEach [⟨some (Str.ofString f), e, kpos⟩] X.env)).any (·.1.isNone)) = false) :
    PE X (.Call (.Name x p) [] [⟨some (Str.ofString f), e, kpos⟩] pos) (tE X.K CT cl W (.mkxi n f c)) := by
  obtain ⟨g, fd, i1, i2, F, hb⟩ := L.ini
  refine ⟨fun pins s σ H Q I ⟨m, G, h, ρ, R, sr, z⟩ => ?_⟩
  simp only [ev] at z
  have z2 : Post X.K CT (Rel X.K) W σ m G h.length Q ((evs cl [c] ρ h).bind fun ys h1 => match ys with
      | [y] => .ok (.ref h1.length) (h1 ++ [.exn n [(f, y)]])
      | _ => .bad) := by
    simp only [evs]
    cases q1 : ev cl c ρ h with
    | ok y h1 =>
      rw [q1] at z
      simpa using z
    | exc y h1 =>
      rw [q1] at z
      exact z
    | bad =>
      rw [q1] at z
      exact z
  refine wpAny_Call_Name_kw (ld_glob I hg L.gC ?_ hdb)
  refine PySem.W.callWith_KW0 (h₀ := X.base) I.ok.mod.kin L.ox.kC hall (thn (ha.run pos pins s σ H _ I (tA_first (Q1 := fun vs H1 => ∃ m1 G1 h1 y v, HR X.K CT m1 G1 H1 h1 ∧ vs = [v] ∧ Rel X.K m1 h1.length G1 y v ∧ Post X.K CT (Rel X.K) W σ m1 G1 h1.length Q (.ok (.ref h1.length) (h1 ++ [.exn n [(f, y)]]))) hcl R sr z2
    fun ys vs h1 m1 G1 H1 _ _ _ R1 _ rl q1 => ?_)) fun us s1 ⟨vs, H1, I1, r1, m1, G1, h1, y, v, R1, ev, ry, q1⟩ => ⟨I1.kIn, ?_⟩) hpl
  · split at q1
    · rename_i y
      obtain ⟨v, rfl, rv⟩ := rl.one_inv
      exact ⟨m1, G1, h1, y, v, R1, rfl, rv, q1⟩
    · exact q1.elim
  rw [hks]
  subst ev
  obtain ⟨u, rfl, ru⟩ : ∃ u, us = [u] ∧ L2.RelV v u := by
    cases r1 with
    | cons a b => cases b; exact ⟨_, rfl, a⟩
  show wpAny _ _ (call (.ref C) [] [(Str.ofString f, u)]) _ _ _
  obtain ⟨nm, qn, N, bs, bm, sn, sub, ab, col, dd, k0, k1, k2, k3, k5, hC, hbm⟩ := L.ox.cls
  obtain ⟨hp, gs, dr, tk, os⟩ := s1
  have up1 : hp.objs.size ≤ hp.objs.size + 1 := Nat.le_succ _
  have na : H1 (hp.objs.size + 1) = none := I1.hok.fresh up1
  have kk : ∀ b o, hp.get? b = some o → ((hp.push (PySem.W.kdv_tup [])).push (PySem.HandSPX.excO C hp.objs.size)).get? b = some o := fun b o e => Heap.get?_push_of_some _ (Heap.get?_push_of_some _ e)
  have hget : ((hp.push (PySem.W.kdv_tup [])).push (PySem.HandSPX.excO C hp.objs.size)).get? (hp.objs.size + 1) = some (PySem.HandSPX.excO C hp.objs.size) := by heap_get
  have J2 : Inv X pins σ (upd H1 (hp.objs.size + 1) (exo (hp.objs.size + 1) C none)) ⟨(hp.push (PySem.W.kdv_tup [])).push (PySem.HandSPX.excO C hp.objs.size), gs, dr, tk, os⟩ :=
    I1.laid (t' := tk) (a := hp.objs.size + 1) (o := exo (hp.objs.size + 1) C none) (h' := (hp.push (PySem.W.kdv_tup [])).push (PySem.HandSPX.excO C hp.objs.size)) kk up1 (exo_ok hget)
  have sp : spInit X.K C (Str.ofString f) [V.ref (hp.objs.size + 1), v] (upd H1 (hp.objs.size + 1) (exo (hp.objs.size + 1) C none))
      (fun r H2 => r = .non ∧ ∃ dx, H1 dx = none ∧ H2 (hp.objs.size + 1) = some (exo (hp.objs.size + 1) C (some dx)) ∧ H2 dx = some (exd dx [(Str.ofString f, v)]) ∧ dx ≠ hp.objs.size + 1 ∧ H2 = upd (upd (upd H1 (hp.objs.size + 1) (exo (hp.objs.size + 1) C none)) dx (exd dx [(Str.ofString f, v)])) (hp.objs.size + 1) (exo (hp.objs.size + 1) C (some dx))) (fun _ _ _ => False) := by
    refine ⟨_, v, rfl, upd_same, fun dx hdx ne => ⟨rfl, dx, ?_, upd_same, ?_, ne, rfl⟩⟩
    · rw [upd_ne ne] at hdx
      exact hdx
    · rw [upd_ne ne, upd_same]
  have rs : Vals [V.ref (hp.objs.size + 1), v] [Value.ref (hp.objs.size + 1), u] := .cons rfl (.cons ru .nil)
  refine wpAny_call (PySem.HandSPX.kw_call PySem.F.excBase_ValueError (fun Y => PySem.HandSPX.refsVE_contains Y bm hbm) (I1.kIn _ _ hC) (PySem.W.looks_findIn I1.kIn i1) (fun slf => PySem.W.bind_fn I1.kIn slf i2)
    (codeAny_mono (F.run _ X.stack _ _ ⟨[Value.ref (hp.objs.size + 1)], [(Str.ofString f, u)]⟩ [Value.ref (hp.objs.size + 1), u] _ _ (fun _ _ _ => False) ((hr.mono (by omega)).make C [] [(Str.ofString f, u)]) (J2.env0.make C [] [(Str.ofString f, u)]) (hb _ _ _) rs sp) fun r s' hq' => ?_))
  cases r with
  | error er => exact pass0 pins σ _ _ er s' J2 hq'
  | ok fl =>
    cases fl with
    | ret u0 =>
      obtain ⟨v', H2, os2, bare2, un2, hok2, rv, ev', dx, n1, ea, ed, ne, eH⟩ := hq'
      subst ev'
      obtain ⟨h2, g2, d2, t2, os'⟩ := s'
      obtain ⟨t0, Gx, J, kG, ge, hoe, nx⟩ := mk_end0 (d2 := d2) (t2 := t2) I1 up1 kk un2 hok2 os2 bare2 ea ed n1
      have eh : upd (del H2 (hp.objs.size + 1)) dx (.xd [(Str.ofString f, v)]) = upd H1 dx (.xd [(Str.ofString f, v)]) := by
        funext b
        rw [eH]
        unfold upd del
        by_cases b1 : b = dx
        · simp [b1]
        · by_cases b2 : b = hp.objs.size + 1
          · subst b2
            simp [b1, na]
          · simp [b1, b2]
      rw [eh] at J nx
      obtain ⟨R2, s2⟩ := R1.newT (u := .xd [(Str.ofString f, v)]) n1
      obtain ⟨R3, s3, rr⟩ := R2.exn (n := n) (C := C) (d := some dx) (fs := [(f, y)]) ct nx (.inr ⟨dx, _, rfl, upd_same, rfl, ry.mono Ex.refl (Nat.le_refl _) s2, trivial⟩)
      exact ⟨rv, .ref (hp.objs.size + 1), _, J.laidN kG ge nx (exo2_ok hoe ⟨rfl, rfl⟩ rfl), rfl, q1 _ _ _ _ mx_ex (s2.trans s3) R3 rr⟩
    | next => exact False.elim hq'
    | brk => exact False.elim hq'
    | cont => exact False.elim hq'
end
theorem lowK_mk {P : Program} {w : World} {K : PySem.W.Frag} {mg : Str → Option Value} {base : Heap} {q f : String} {fd : FuncData} (hm : mg (SO q) = some (.ref (gaS K q))) (l : LowF K q f) (F : FnOk P w K mg base CX0 1 (He.ma K (gaS K q) "__init__") fd ["self", SO f] (spInit K (gaS K q) (SO f))) (b : KB1 fd (SO f)) : LowK P w K mg base (SO q) (SO f) (gaS K q) :=
  ⟨hm, l.ox, _, fd, l.i1, l.i2, F, b⟩
end Mi

set_option Elab.async false
set_option linter.all false
set_option maxRecDepth 100000
set_option maxHeartbeats 1000000
/-! Mk3: a def that gets a lambda; isinstance with two classes. -/
namespace Mi
open PySem PySem.Spec PyProof.Rows L2 LamX
/-! ### the lambda within the relation -/
def Cts.push (CT : Cts) (y : GF) : Cts := { CT with gh := y :: CT.gh }
section
variable {K : PySem.W.Frag} {CT : Cts} {m : Nat → Addr} {N : Nat} {G H H1 : Hp} {h : PH} {y : GF}
theorem HR.pop (R : HR K (CT.push y) m G H h) : HR K CT m G H h :=
  ⟨fun i o e => by
    have q := R.obj i o e
    cases o <;> exact q, R.inj, R.sub, R.dj, ⟨fun x hx => R.xt.gh x (List.mem_cons_of_mem _ hx), R.xt.tb, R.xt.gt⟩⟩
theorem HR.top (R : HR K (CT.push y) m G H h) : GhOk K m h.length G y := R.xt.gh y (List.mem_cons_self ..)
theorem Post.push {α β : Type} {rel : (Nat → Addr) → Nat → Hp → α → β → Prop} {W : WX} {σ : L2.St} {Q : β → Hp → Prop} {r : R α} (p : Post K CT rel W σ m G N Q r) : Post K (CT.push y) rel W σ m G N Q r := by
  cases r with
  | ok a h' => exact fun m' G' H' b e1 e2 e3 e4 => p m' G' H' b e1 e2 e3.pop e4
  | exc x h' => exact fun m' G' H' cls d e1 e2 e3 e4 => p m' G' H' cls d e1 e2 e3.pop e4
  | bad => exact p
open Classical in
/-- the code objects that stand in the heap are known -/
noncomputable def codes (G H : Hp) : Hp := fun b => if ∃ q, H b = some (CodeO b q) then H b else G b
theorem HR.tabs (R : HR K CT m G H h) : Tabs CT.tbs H := fun p hp => by
  obtain ⟨_, ps, h1, h2, h3⟩ := R.xt.tb p hp
  exact ⟨ps, h1, h2, fun pos cv e => let ⟨c, e1, e2⟩ := h3 pos cv e; ⟨c, e1, R.sub _ _ e2⟩⟩
theorem code_ne {c : Addr} {q : Str} {ps : Array Value} : CodeO c q ≠ .tbl ps := fun z => by
  have z' : HO.ext _ = HO.tbl ps := z
  cases z'
theorem nk_code (R : HR K CT m G H h) {i : Nat} {o : PO} (e : h[i]? = some o) (k : nk o = true) {q : Str} : H (m i) ≠ some (CodeO (m i) q) := by
  have z := R.obj i o e
  have nx : ∀ u : HO, (∀ f, u ≠ .ext f) → some u ≠ some (CodeO (m i) q) := fun u hu z => by
    have z' : u = HO.ext _ := Option.some.inj z
    exact hu _ z'
  cases o with
  | lst xs => obtain ⟨vs, z, _⟩ := z; rw [z]; exact nx _ fun f z => by cases z
  | frz xs => cases k
  | dic xs => obtain ⟨vs, z, _⟩ := z; rw [z]; exact nx _ fun f z => by cases z
  | ins c fs => obtain ⟨C, dx, gs, _, z, _⟩ := z; rw [z]; exact nx _ fun f z => by cases z
  | exn c fs => cases k
  | lam => cases k
/-- the heap where the lambda was made -/
theorem HR.made (R : HR K CT m G H h) (eN : ExtN H H1) (T1 : Tabs CT.tbs H1) : HR K CT m (codes G H1) H1 h ∧ Sub G (codes G H1) := by
  have s1 : Sub G H1 := fun b o e => eN b o (R.sub b o e) fun ps z => R.xt.gt b ps (by rw [e, z])
  have sg : Sub G (codes G H1) := fun b o e => by
    unfold codes
    split
    · exact s1 b o e
    · exact e
  have cd : ∀ {c : Addr} {q : Str}, H1 c = some (CodeO c q) → codes G H1 c = some (CodeO c q) := fun {c q} e => by
    unfold codes
    rw [if_pos ⟨q, e⟩]
    exact e
  have st : ∀ i o, h[i]? = some o → nk o = true → H1 (m i) = H (m i) := fun i o e k => by
    cases z : H (m i) with
    | none => exact absurd z (R.nn e k)
    | some u => exact eN _ u z fun ps zz => R.nt e k (by rw [z, zz])
  refine ⟨⟨fun i o e => (R.obj i o e).keep Ex.refl (Nat.le_refl _) sg (st i o e), R.inj, fun b o e => ?_, fun i o e k => ?_, ⟨fun x hx => ?_, fun p hp => ?_, fun b ps e => ?_⟩⟩, sg⟩
  · unfold codes at e
    split at e
    · exact e
    · exact s1 b o e
  · unfold codes
    rw [if_neg]
    · exact R.dj i o e k
    · rintro ⟨q, z⟩
      rw [st i o e k] at z
      exact nk_code R e k z
  · obtain ⟨h1, h2, h3, h4⟩ := R.xt.gh x hx
    exact ⟨h1, h2, sg _ _ h3, h4.mono Ex.refl (Nat.le_refl _) sg⟩
  · obtain ⟨h0, _⟩ := R.xt.tb p hp
    obtain ⟨ps, h1, h2, h3⟩ := T1 p hp
    refine ⟨?_, ps, h1, h2, fun pos cv e => let ⟨c, e1, e2⟩ := h3 pos cv e; ⟨c, e1, cd e2⟩⟩
    unfold codes
    rw [if_neg]
    · exact h0
    · rintro ⟨q, z⟩
      rw [h1] at z
      exact code_ne (Option.some.inj z).symm
  · unfold codes at e
    split at e
    · rename_i z
      obtain ⟨q, z⟩ := z
      rw [z] at e
      exact code_ne (Option.some.inj e)
    · exact R.xt.gt b ps e
/-- .. and the lambda is in the store -/
theorem HR.lam {f c : Addr} {q : Str} {ρ : Mi.Env} {σ : L2.St} (R : HR K CT m G H h) (s : SR K m h.length G ρ σ) (eN : ExtN H H1) (T1 : Tabs CT.tbs H1) (hc : H1 c = some (CodeO c q)) :
    ∃ G1, Sub G G1 ∧ HR K (CT.push ⟨h.length, f, c, q, ρ, σ⟩) (mx m h.length f) G1 H1 (h ++ [.lam]) := by
  obtain ⟨R1, sg⟩ := R.made eN T1
  refine ⟨_, sg, ?_⟩
  have R2 : HR K CT (mx m h.length f) (codes G H1) H1 (h ++ [.lam]) := R1.newF (o := .lam) trivial rfl
  refine ⟨fun i o e => by
    have z := R2.obj i o e
    cases o <;> exact z, R2.inj, R2.sub, R2.dj, ⟨fun x hx => ?_, R2.xt.tb, R2.xt.gt⟩⟩
  rcases List.mem_cons.mp hx with rfl | hx
  · refine ⟨by simp, mx_new, ?_, s.mono mx_ex (by simp) sg⟩
    unfold codes
    rw [if_pos ⟨q, hc⟩]
    exact hc
  · exact R2.xt.gh x hx
end
/-! ### a def that gets one -/
/-- what its call means where n0 is its place and k its meaning -/
def tK (K : PySem.W.Frag) (CT : Cts) (W : WX) (n0 : Nat) (k : PH → R PV) : TE := fun σ H Q => ∃ m G h ρ, HR K CT m G H h ∧ SR K m h.length G ρ σ ∧ ρ[0]? = some (some (.ref n0)) ∧ Post K CT (Rel K) W σ m G h.length Q (k h)
theorem I_wk {X : Cx} {CT : Cts} {W : WX} {cl : Cl} {e : Expr} {n0 : Nat} {k : PH → R PV} (act : PE X e (tK X.K CT W n0 k)) : PE X e (tE X.K CT (clL cl n0 k) W (.wk (.v 0))) :=
  PEimp act fun σ H Q ⟨m, G, h, ρ, R, s, q⟩ => by
    simp only [ev] at q
    refine ⟨m, G, h, ρ, R, s, ?_⟩
    cases e0 : ρ[0]? with
    | none => rw [e0] at q; exact q.elim
    | some o =>
      rw [e0] at q
      cases o with
      | none => exact q.elim
      | some v =>
        have q : Post X.K CT (Rel X.K) W σ m G h.length Q (wkV n0 k [v] h) := q
        cases v with
        | ref n =>
          by_cases hn : n = n0
          · subst hn
            refine ⟨rfl, ?_⟩
            simp only [wkV, if_true] at q
            unfold grw at q
            cases z : k h with
            | ok v h1 =>
              rw [z] at q
              simp only at q
              split at q
              · exact q
              · exact q.elim
            | exc v h1 =>
              rw [z] at q
              simp only at q
              split at q
              · exact q
              · exact q.elim
            | bad =>
              rw [z] at q
              exact q.elim
          · simp only [wkV, if_neg hn] at q
            exact q.elim
        | _ => exact q.elim
abbrev toldC (P : Program) (w : World) (K : PySem.W.Frag) (mg : Str → Option Value) (base : Heap) (NN : List Str) (x : Str) (st : Stmt) (g : Addr) (cdv : Value) (A : Around) (out : List PySem.Env) (s : Shared) (H : Hp) (E : XK) : Cx :=
  cxOf (L2.CX P w) P w K mg base NN x (defScope st) g cdv A out s H E
/-- the promise of such a def -/
structure LCal (P : Program) (w : World) (K : PySem.W.Frag) (mg : Str → Option Value) (base : Heap) (CT : Cts) (cl : Cl) (k : Nat) (f : String) (x : Str) (st : Stmt) (g : Addr) (NN : List Str) (a : Str) : Prop where
  nm : NN[0]? = some a
  vs : Vis (defScope st) a
  go : ∀ (A : Around) (out : List PySem.Env) (s : Shared) (H : Hp) (E : XK) (fl : Addr) (Q : VK) (n0 : Nat) (kb : PH → R PV) (m : Nat → Addr) (G : Hp) (h : PH), Room k A → A.guards = some [] → Env0 P w K mg base A out s H →
    (∀ (cdv : Value) (W : WX) (pn : List (Addr × Obj)) (xe : Value → Shared → Prop), Takes ((toldC P w K mg base NN x st g cdv A out s H E).tr pn xe) W → ∀ p1 p2 : Pos, PE ((toldC P w K mg base NN x st g cdv A out s H E).tr pn xe) (.Call (.Name a p1) [] [] p2) (tK K CT W n0 kb)) →
    HR K CT m G H h → n0 < h.length → m n0 = fl → Post K CT (Rel K) (fun cls d _ H' => E cls d H') [] m G h.length Q (cl (.l f kb) [.ref n0] h) →
    codeAny (model P w) A (.call (.ref g) ⟨[.ref fl], []⟩) (CR (L2.CX P w) out P w H s Q E) s
theorem LCal.more {P : Program} {w : World} {K : PySem.W.Frag} {mg : Str → Option Value} {base : Heap} {CT : Cts} {cl : Cl} {j k : Nat} {f : String} {x : Str} {st : Stmt} {g : Addr} {NN : List Str} {a : Str} (L : LCal P w K mg base CT cl j f x st g NN a) (h : j ≤ k) : LCal P w K mg base CT cl k f x st g NN a :=
  ⟨L.nm, L.vs, fun A out s H E fl Q n0 kb m G h1 hr => L.go A out s H E fl Q n0 kb m G h1 (hr.mono h)⟩
section
variable {P : Program} {w : World} {K : PySem.W.Frag} {mg : Str → Option Value} {base : Heap} {CT : Cts} {cl cl0 : Cl}
theorem lcal_bad {k : Nat} {f : String} {x : Str} {st : Stmt} {g : Addr} {NN : List Str} {a : Str} (nm : NN[0]? = some a) (vs : Vis (defScope st) a) (hb : ∀ kb n0 h, cl (.l f kb) [.ref n0] h = .bad) : LCal P w K mg base CT cl k f x st g NN a :=
  ⟨nm, vs, fun A out s H E fl Q n0 kb m G h _ _ _ _ _ _ _ q => by
    rw [hb] at q
    exact q.elim⟩
/-- from its body -/
theorem lcal_run {f : String} {x a : Str} {st : Stmt} {g : Addr} {fd : FuncData} {NN : List Str} {k : Nat} {d : Fn} (F : Fun K x x st g fd) (B : L2.Binds K fd [a] []) (S : FnScope NN [a] (defScope st)) (hn : d.np = 1) (hl : d.nl = NN.length - 1) (nm : NN[0]? = some a) (vs : Vis (defScope st) a) (hcl : GroC cl0)
    (he : ∀ kb n0 h, cl (.l f kb) [.ref n0] h = d.run (clL cl0 n0 kb) [.ref n0] h)
    (hb : ∀ (cdv : Value) (A : Around) (out : List PySem.Env) (s : Shared) (H : Hp) (E : XK) (W : WX) (n0 : Nat) (kb : PH → R PV), Room k (A.deeper (envOfC x (defScope st) s.heap.objs.size g cdv)) → A.guards = some [] → Takes (toldC P w K mg base NN x st g cdv A out s H E) W →
      PassesOwn (model P w) (A.deeper (envOfC x (defScope st) s.heap.objs.size g cdv)) (envOfC x (defScope st) s.heap.objs.size g cdv) (toldC P w K mg base NN x st g cdv A out s H E).xe →
      (∀ (W : WX) (pn : List (Addr × Obj)) (xe : Value → Shared → Prop), Takes ((toldC P w K mg base NN x st g cdv A out s H E).tr pn xe) W → ∀ p1 p2 : Pos, PE ((toldC P w K mg base NN x st g cdv A out s H E).tr pn xe) (.Call (.Name a p1) [] [] p2) (tE K CT (clL cl0 n0 kb) W (.wk (.v 0)))) →
      PSs (toldC P w K mg base NN x st g cdv A out s H E) (defBody st) (tSs K CT (clL cl0 n0 kb) W d.body)) : LCal P w K mg base CT cl (k + 1) f x st g NN a := by
  refine ⟨nm, vs, fun A out s H E fl Q n0 kb m G h hr hg e0 act R lt me q => ?_⟩
  obtain ⟨oc, od, kV, doc, pm, an, cdv, ct, osl, rfl, lk, hcd⟩ := F.ex
  have inK := e0.mod.kin.keeps (fun b o e => (e0.bs b o e).1)
  have noLim := e0.mod.nolimit.keeps (fun b o e => (e0.bs b o e).1)
  have kinds : ∀ y ∈ [a].zip [Value.ref fl], (defScope st).names.lookup y.1 = some .local ∨ ((defScope st).names.lookup y.1 = some .cell ∧ ((cellsFrom (s.heap.objs.size + 1) (defScope st).names []).lookup y.1).isSome = true) := by
    rintro ⟨n, v⟩ hy
    have hn : n ∈ [a] := (List.of_mem_zip hy).1
    cases S.par n hn with
    | inl q => exact .inl q
    | inr q => exact .inr ⟨q, PySem.W.cellsFrom_some _ _ _ (.inl q)⟩
  have hbd : BindsTo s (PySem.W.fnOf x x (defArgs st) (defBody st) (defScope st) .none kV doc pm an cdv ct) ⟨[.ref fl], []⟩ ([a].zip [Value.ref fl]) := by
    have z := B s [.ref fl] inK rfl
    exact z
  refine codeAny_call_function hr.depth (inK _ _ lk) rfl S.co S.gen rfl (PySem.W.codeRec_of inK hcd) (hbd _ _ _ _ ?_)
  refine wpAny_newFunctionEnv_cells S.kind kinds fun env henv s1 z => ?_
  subst henv
  refine ⟨noLim.keeps z.toInCall.keep, codeAny_func ?_⟩
  have rv : Vals [V.ref fl] [Value.ref fl] := .cons rfl .nil
  have ht := hb cdv A out s H E (fun cls d _ H' => E cls d H') n0 kb (hr.deeper _) hg (takes_of rfl rfl rfl rfl) (passes_of rfl) fun W pn xe tk p1 p2 => I_wk (act cdv W pn xe tk p1 p2)
  have I0 := inv_start (CX := L2.CX P w) (E := E) S hr.hd e0 (us := [.ref fl]) (vs := [.ref fl]) rfl rv z
  have hq : tSs K CT (clL cl0 n0 kb) (fun cls d _ H' => E cls d H') d.body { nx := fun _ H' => Q .non H', rt := Q } (start NN [.ref fl]) H := by
    rw [he] at q
    unfold Fn.run at q
    rw [if_pos (show [PV.ref n0].length = d.np from hn.symm)] at q
    have rl : RelL K m h.length G [PV.ref n0] [V.ref fl] := by
      have z : Rel K m h.length G (.ref n0) (.ref (m n0)) := .ref lt
      rw [me] at z
      exact .cons z .nil
    refine ⟨m, G, h, [PV.ref n0].map some ++ List.replicate d.nl none, R, ?_, ?_⟩
    · unfold L2.start
      rw [hl]
      exact sr_start rl _
    · cases e : exs (clL cl0 n0 kb) d.body ([PV.ref n0].map some ++ List.replicate d.nl none) h with
      | ok fl h1 =>
        rw [e] at q
        intro m' G' H' x1 x2 R'
        cases fl with
        | nx ρ => exact fun σ _ => q m' G' H' .non x1 x2 R' .non
        | rt v => exact fun u r => q m' G' H' u x1 x2 R' r
        | bk ρ => exact q.elim
        | ct ρ => exact q.elim
        | xc y ρ => exact fun σ cls dd _ xr => q m' G' H' cls dd x1 x2 R' xr
      | exc y h1 =>
        rw [e] at q
        exact q.elim
      | bad =>
        rw [e] at q
        exact q.elim
  refine wpAny_mono (ht.run [] s1 (start NN [.ref fl]) H _ I0 hq) (fun fl s' hs => ?_) (fun e s' hs => hs)
  cases fl with
  | ret u =>
    obtain ⟨v, σ', H', J, rv, q⟩ := hs
    exact ⟨v, H', J.os, J.bare, J.base, J.hok, rv, q⟩
  | next =>
    obtain ⟨σ', H', J, q⟩ := hs
    exact ⟨V.non, H', J.os, J.bare, J.base, J.hok, rfl, q⟩
  | brk =>
    obtain ⟨_, _, _, z⟩ := hs
    exact False.elim z
  | cont =>
    obtain ⟨_, _, _, z⟩ := hs
    exact False.elim z
end
/-! ### the call within, where no repr runs -/
section
variable {X : Cx} {CT : Cts} {cl : Cl} {W : WX} {pins : List (Addr × Obj)} {σ : L2.St} {H HZ : Hp} {s : Shared}
theorem pe_wk {Eg : XK} {Ng : List Str} {qg : Str} {sg : Scope} {g f c' : Addr} {cdg pm ctv : Value} {params : Arguments} {body : Expr} {scope : Scope} {k n0 : Nat} {a : Str} {pn : List (Addr × Obj)} {xe : Value → Shared → Prop} {b : E} {ρ : Mi.Env} {p1 p2 : Pos}
    (I : Inv X pins σ H s) (L : LamS X.env.scope scope) (hf : s.heap.get? f = some (PySem.W.kla_obj "<lambda>" (X.env.qual ++ "<lambda>") params body scope (cloFrom X.env.cells scope.names []) pm c' ctv)) (hfn : H f = none) (hfr : f ∉ frs X.stack)
    (hbind : bindArgs (PySem.W.kla_fn "<lambda>" (X.env.qual ++ "<lambda>") params body scope (cloFrom X.env.cells scope.names []) pm (.ref c') ctv) ⟨[], []⟩ = pure [])
    (tk : Takes ((cxOf (L2.CX X.prog X.w) X.prog X.w X.K X.mg X.base Ng qg sg g cdg X.A X.stack s H Eg).tr pn xe) W) (hr : Room (k + 1) (X.A.deeper (envOfC qg sg s.heap.objs.size g cdg)))
    (hbody : ∀ (s1 : Shared) (H1 : Hp) (E : XK), Room k ((X.A.deeper (envOfC qg sg s.heap.objs.size g cdg)).deeper (lamEnv X scope s1.heap.objs.size f c')) →
      PE (lamCx X (X.A.deeper (envOfC qg sg s.heap.objs.size g cdg)) (envOfC qg sg s.heap.objs.size g cdg :: X.stack) s1 H1 E scope f c') body (tE X.K (CT.push ⟨n0, f, c', X.env.qual ++ "<lambda>", ρ, σ⟩) cl (fun cls d _ H' => E cls d H') b))
    (hN : Ng[0]? = some a) (hv : Vis sg a) (hd : (a == ("__debug__" : Str)) = false) (hcd : (a == ("__classdict__" : Str)) = false) :
    PE ((cxOf (L2.CX X.prog X.w) X.prog X.w X.K X.mg X.base Ng qg sg g cdg X.A X.stack s H Eg).tr pn xe) (.Call (.Name a p1) [] [] p2) (tK X.K (CT.push ⟨n0, f, c', X.env.qual ++ "<lambda>", ρ, σ⟩) W n0 fun h => ev cl b ρ h) := by
  refine ⟨fun pinsZ sZ σZ HZ Q IZ ⟨m, G, h, ρZ, R, sr, h0, q⟩ => ?_⟩
  obtain ⟨_, mf, gc, sm⟩ := R.top
  have hs : σZ[0]? = some (some (V.ref f)) := by
    obtain ⟨v, e1, e2⟩ := sr.2 0 _ h0
    have e3 : v = .ref (m n0) := by cases e2; rfl
    rw [e1, e3, show m n0 = f from mf]
  have hc : HZ c' = some (CodeO c' (X.env.qual ++ "<lambda>")) := R.sub _ _ gc
  refine wpAny_Call_Name_kw (thn ((pe_var (pos := p1) (i := 0) hN hv hd hcd).run pinsZ sZ σZ HZ (fun v H1 => v = .ref f ∧ H1 = HZ) IZ ⟨.ref f, hs, rfl, rfl⟩) fun u s1 ⟨v, H1, I1, r1, q1⟩ => ?_)
  obtain ⟨ev, eH⟩ := q1
  subst ev
  rw [eH] at I1
  obtain rfl : u = Value.ref f := r1
  have of1 : s1.heap.get? f = some (PySem.W.kla_obj "<lambda>" (X.env.qual ++ "<lambda>") params body scope (cloFrom X.env.cells scope.names []) pm c' ctv) := I1.base.keep f _ hf hfn hfr (fun z => nomatch (show f ∈ ([] : List Addr) from z))
  refine PySem.W.callWith_F0 ⟨_, _, _, _, of1⟩ ?_
  have un : Un (frs X.stack) [] H HZ s.heap s1.heap := I1.base
  obtain ⟨⟨oc, vs, t, hoc, hdc, hvc⟩, _, _⟩ := I1.hok c' _ hc
  have rc : codeAny (model X.prog X.w) (X.A.deeper (envOfC qg sg s.heap.objs.size g cdg)) (.call (.ref f) ⟨[], []⟩) (CR (L2.CX X.prog X.w) (envOfC qg sg s.heap.objs.size g cdg :: X.stack) X.prog X.w HZ s1 Q fun cls d H' => W cls d σZ H') s1 := by
    refine PySem.W.kla_callFunE hr.depth of1 rfl L.co L.gen rfl ⟨c', oc, vs, t, rfl, hoc, hdc, hvc⟩ ?_
    rw [hbind]
    refine wpAny_pure (wpAny_newFunctionEnv (fun y hy => (L.own y hy).2) (fun y hy => absurd hy (by simp)) (fun h₁ hns hsb => ⟨I1.nolimit.fresh _ hsb, ?_⟩) L.kind)
    show codeAny _ _ (.expr body (lamEnv X scope s1.heap.objs.size f c')) _ _
    have kp : ∀ b o, s1.heap.get? b = some o → h₁.get? b = some o := fun b o e => hsb.extBut b o (Nat.ne_of_lt (Heap.lt_size e)) (Heap.get?_push_of_some _ e)
    have J : Inv (lamCx X (X.A.deeper (envOfC qg sg s.heap.objs.size g cdg)) (envOfC qg sg s.heap.objs.size g cdg :: X.stack) s1 HZ (fun cls d H' => W cls d σZ H') scope f c') [] σ HZ { s1 with heap := h₁, toks := s1.toks + ([] : List (Str × Value)).length } :=
      lam_start2 I L I1.env0 hr.hd un hns kp
    refine PySem.W.kla_codeExpr (wpAny_mono ((hbody s1 HZ (fun cls d H' => W cls d σZ H') (hr.deeper _)).run [] _ _ HZ Q J ⟨m, G, h, ρ, R, sm, q.slots fun _ _ _ z => z⟩) (fun v s' hq => ?_) fun e s' hq => hq)
    obtain ⟨w', H', J', rv, q⟩ := hq
    exact ⟨w', H', J'.os, J'.bare, J'.base, J'.hok, rv, q⟩
  refine wpAny_call (codeAny_mono rc fun r s' hq => ?_)
  cases r with
  | error e => exact tk e s' (XE.of_call I1 (fun _ _ _ z => z) hq)
  | ok fl =>
    cases fl with
    | ret u => exact I1.after hq
    | next => exact False.elim hq
    | brk => exact False.elim hq
    | cont => exact False.elim hq
/-- x(lambda: body) -/
theorem I_lam {f : String} {x a : Str} {st : Stmt} {g c P : Addr} {k : Nat} {NN : List Str} {params : Arguments} {body : Expr} {scope : Scope} {b : E} {p lpos pos : Pos} (hcl : GroC cl) (L : ∀ y, LCal X.prog X.w X.K X.mg X.base (CT.push y) cl (k + 2) f x st g NN a) (hr : Room (k + 2) X.A) (hgd : X.A.guards = some []) (tk : Takes X W)
    (hg : Gl X x) (hm : X.mg x = some (.ref g)) (hk : PySem.W.keepIn X.K (.ref g) = true) (TB : TabB X.base X.mg c P) (hcode : X.env.code = .ref c) (hmT : (P, X.env.qual ++ "<lambda>") ∈ CT.tbs) (hu : ∀ p ∈ CT.tbs, p.1 = P → p.2 = X.env.qual ++ "<lambda>")
    (S : LamS X.env.scope scope) (hdef : defaultsOf params X.env = ([], []))
    (hbind : ∀ (q : Str) (cl : List (Str × Addr)) (pm cv ctv : Value), bindArgs (PySem.W.kla_fn "<lambda>" q params body scope cl pm cv ctv) ⟨[], []⟩ = pure [])
    (hbody : ∀ (y : GF) (A : Around) (outer : List PySem.Env) (s : Shared) (H : Hp) (E : XK) (f c' : Addr), Room k (A.deeper (lamEnv X scope s.heap.objs.size f c')) → A.guards = some [] → PE (lamCx X A outer s H E scope f c') body (tE X.K (CT.push y) cl (fun cls d _ H' => E cls d H') b))
    (hdb : (x == ("__debug__" : Str)) = false) (hd : (a == ("__debug__" : Str)) = false) (hcd : (a == ("__classdict__" : Str)) = false) :
    PE X (.Call (.Name x p) [.Lambda params body scope lpos] [] pos) (tE X.K CT cl W (.lam f b)) := by
  refine ⟨fun pins s σ H Q I ⟨m, G, h, ρ, R, sr, q⟩ => ?_⟩
  simp only [ev] at q
  refine wpAny_Call_Name_kw (ld_glob I hg hm ?_ hdb)
  refine PySem.W.callWith_K (h₀ := X.base) I.ok.mod.kin hk ?_ (by rfl) (by rfl)
  show wpAny _ _ (spliced ((false, eval (.Lambda params body scope lpos) X.env) :: backTo pos (starEach [] X.env))) _ _ s
  refine Calls.spliced_cons (lam_make2 I TB hcode hmT hu R.tabs hdef (S.has I.ok) fun f' c' pm' ctv H1 s' I1 eN T1 hf hfn hfr hco => ?_)
  refine Calls.spliced_nil ⟨I1.kIn, ?_⟩
  obtain ⟨G1, sg, R1⟩ := R.lam (f := f') (ρ := ρ) (σ := σ) sr eN T1 hco
  have LY := L ⟨h.length, f', c', X.env.qual ++ "<lambda>", ρ, σ⟩
  have rc : codeAny (model X.prog X.w) X.A (.call (.ref g) ⟨[.ref f'], []⟩) (CR (L2.CX X.prog X.w) X.stack X.prog X.w H1 s' Q fun cls d H' => W cls d σ H') s' := by
    refine LY.go X.A X.stack s' H1 _ f' Q h.length (fun h1 => ev cl b ρ h1) _ G1 _ hr hgd I1.env0 (fun cdv W pn xe tk p1 p2 => ?_) R1 (by simp) mx_new ?_
    · exact pe_wk (k := k) I1 S hf hfn hfr (hbind _ _ _ _ _) tk (hr.deeper _) (fun s1 H2 E r => hbody _ _ _ s1 H2 E f' c' r hgd) LY.nm LY.vs hd hcd
    · exact ((q.slots fun _ _ _ z => z).later mx_ex (by simp) sg).push
  refine wpAny_call (codeAny_mono rc fun r s2 hq => ?_)
  cases r with
  | error e => exact tk e s2 (XE.of_call I1 (fun _ _ _ z => z) hq)
  | ok fl =>
    cases fl with
    | ret u => exact I1.after hq
    | next => exact False.elim hq
    | brk => exact False.elim hq
    | cont => exact False.elim hq
end
/-! ### isinstance with several classes -/
section
variable {X : Cx}
theorem tys_nil : PA X [] (fun _ H Q => Q [] H) := pa_nil
theorem tys_cons {e : Expr} {es : List Expr} {u : V} {us : List V} (h1 : PE X e (tC u)) (h2 : PA X es (fun _ H Q => Q us H)) (hs : starEach (e :: es) X.env = (false, eval e X.env) :: starEach es X.env) : PA X (e :: es) (fun _ H Q => Q (u :: us) H) := pa_cons h1 h2 hs
theorem few_tys {us : List V} (h : us.length ≤ 8) : us.length ≤ sizeLine := by
  rw [sizeLine_eq]
  omega
end
end Mi

set_option Elab.async false
set_option linter.all false
set_option maxRecDepth 100000
set_option maxHeartbeats 1000000
/-! Mk4: where lambdas are made: a def's own code, the law's end with tables of code. -/
namespace Mi
open PySem PySem.Spec PyProof.Rows L2 LamX
/-! ### a def's code -/
def codeV (K : PySem.W.Frag) (f : Addr) : Value := match K.lookup f with
  | some ⟨_, _, .func fd, _⟩ => fd.code
  | _ => .none
def cOf (K : PySem.W.Frag) (f : Addr) : Addr := match codeV K f with
  | .ref c => c
  | _ => 0
/-- the table of its code -/
def pOf (K : PySem.W.Frag) (f : Addr) : Addr := match K.lookup (cOf K f) with
  | some ⟨_, _, .fields vs, _⟩ => (match (vs[11]? : Option Value) with
    | some (.ref P) => P
    | _ => 0)
  | _ => 0
/-- by computing: it is known, its table is not -/
def mkB (K : PySem.W.Frag) (f : Addr) : Bool := (match codeV K f with
  | .ref _ => true
  | _ => false) && PySem.W.codeHdIn K (cOf K f) (pOf K f) && (K.lookup (pOf K f)).isNone
theorem mkB_c {K : PySem.W.Frag} {f : Addr} (h : mkB K f = true) : codeV K f = .ref (cOf K f) := by
  unfold mkB at h
  simp only [Bool.and_eq_true] at h
  unfold cOf
  obtain ⟨⟨h, _⟩, _⟩ := h
  split at h
  · rename_i c e
    rw [e]
  · cases h
theorem mkB_h {K : PySem.W.Frag} {f : Addr} (h : mkB K f = true) : PySem.W.codeHdIn K (cOf K f) (pOf K f) = true := by
  unfold mkB at h
  simp only [Bool.and_eq_true] at h
  exact h.1.2
theorem mkB_n {K : PySem.W.Frag} {f : Addr} (h : mkB K f = true) : K.lookup (pOf K f) = none := by
  unfold mkB at h
  simp only [Bool.and_eq_true] at h
  exact Option.isNone_iff_eq_none.mp h.2
section
variable {P : Program} {w : World} {K : PySem.W.Frag} {mg : Str → Option Value} {base : Heap} {CT : Cts} {cl : Cl}
/-- fnG_run, and the code is the def's own -/
theorem fnG_runL {x qual : Str} {st : Stmt} {f : Addr} {fd : FuncData} {NN ps : List Str} {k : Nat} {d : Fn} (F : Fun K x qual st f fd) (S : FnScope NN ps (defScope st)) (hn : d.np = ps.length) (hl : d.nl = NN.length - ps.length) (hcl : GroC cl)
    (hb : ∀ (cdv : Value) (A : Around) (out : List PySem.Env) (s : Shared) (H : Hp) (E : XK) (W : WX), cdv = codeV K f → Room k (A.deeper (envOfC qual (defScope st) s.heap.objs.size f cdv)) → A.guards = some [] → Takes (cxOf (L2.CX P w) P w K mg base NN qual (defScope st) f cdv A out s H E) W →
      PassesOwn (model P w) (A.deeper (envOfC qual (defScope st) s.heap.objs.size f cdv)) (envOfC qual (defScope st) s.heap.objs.size f cdv) (cxOf (L2.CX P w) P w K mg base NN qual (defScope st) f cdv A out s H E).xe →
      PSs (cxOf (L2.CX P w) P w K mg base NN qual (defScope st) f cdv A out s H E) (defBody st) (tSs K CT cl W d.body)) : FnG P w K mg base (k + 1) f fd ps (spB K CT cl d) := by
  obtain ⟨oc, od, kV, doc, pm, an, cdv, ct, osl, rfl, lk, hcd⟩ := F.ex
  have key : codeV K f = cdv := by
    unfold codeV
    rw [lk]
  have fr : ∀ {cdv' : Value}, PySem.W.fnOf x qual (defArgs st) (defBody st) (defScope st) .none kV doc pm an cdv ct = PySem.W.fnOf x qual (defArgs st) (defBody st) (defScope st) .none kV doc pm an cdv' ct → cdv' = cdv := fun e => by
    have := congrArg FuncData.code e
    exact this.symm
  refine ⟨fun vs H Q E h => (spB_len h).trans hn, fun A out s H args us vs Q E hr hg e0 hbd r hsp => ?_⟩
  have inK := e0.mod.kin.keeps (fun b o e => (e0.bs b o e).1)
  have noLim := e0.mod.nolimit.keeps (fun b o e => (e0.bs b o e).1)
  have kinds : ∀ y ∈ ps.zip us, (defScope st).names.lookup y.1 = some .local ∨ ((defScope st).names.lookup y.1 = some .cell ∧ ((cellsFrom (s.heap.objs.size + 1) (defScope st).names []).lookup y.1).isSome = true) := by
    rintro ⟨n, v⟩ hy
    have hn : n ∈ ps := (List.of_mem_zip hy).1
    cases S.par n hn with
    | inl q => exact .inl q
    | inr q => exact .inr ⟨q, PySem.W.cellsFrom_some _ _ _ (.inl q)⟩
  refine codeAny_call_function hr.depth (inK _ _ lk) rfl S.co S.gen rfl (PySem.W.codeRec_of inK hcd) (hbd _ _ _ _ ?_)
  refine wpAny_newFunctionEnv_cells S.kind kinds fun env he s1 z => ?_
  subst he
  refine ⟨noLim.keeps z.toInCall.keep, codeAny_func ?_⟩
  have hlen := spB_len hsp
  have I0 := inv_start (CX := L2.CX P w) (E := E) S hr.hd e0 (hlen.trans hn) r z
  have ht := hb cdv A out s H E (fun cls d _ H' => E cls d H') key.symm (hr.deeper _) hg (takes_of rfl rfl rfl rfl) (passes_of rfl)
  have hq : tSs K CT cl (fun cls d _ H' => E cls d H') d.body { nx := fun _ H' => Q .non H', rt := Q } (start NN vs) H := by
    obtain ⟨m, G, h, pvs, R, rl, q⟩ := hsp
    have e1 : pvs.length = d.np := by rw [rl.length]; exact hlen
    unfold Fn.run at q
    rw [if_pos e1] at q
    have e2 : NN.length - vs.length = d.nl := by rw [hlen, hn, hl]
    refine ⟨m, G, h, pvs.map some ++ List.replicate d.nl none, R, ?_, ?_⟩
    · unfold L2.start
      rw [e2]
      exact sr_start rl _
    · cases e : exs cl d.body (pvs.map some ++ List.replicate d.nl none) h with
      | ok fl h1 =>
        rw [e] at q
        intro m' G' H' x1 x2 R'
        cases fl with
        | nx ρ => exact fun σ _ => q m' G' H' .non x1 x2 R' .non
        | rt v => exact fun u r => q m' G' H' u x1 x2 R' r
        | bk ρ => exact q.elim
        | ct ρ => exact q.elim
        | xc y ρ => exact fun σ cls dd _ xr => q m' G' H' cls dd x1 x2 R' xr
      | exc y h1 =>
        rw [e] at q
        exact q.elim
      | bad =>
        rw [e] at q
        exact q.elim
  refine wpAny_mono (ht.run [] s1 (start NN vs) H _ I0 hq) (fun fl s' hs => ?_) (fun e s' hs => hs)
  cases fl with
  | ret u =>
    obtain ⟨v, σ', H', J, rv, q⟩ := hs
    exact ⟨v, H', J.os, J.bare, J.base, J.hok, rv, q⟩
  | next =>
    obtain ⟨σ', H', J, q⟩ := hs
    exact ⟨V.non, H', J.os, J.bare, J.base, J.hok, rfl, q⟩
  | brk =>
    obtain ⟨_, _, _, z⟩ := hs
    exact False.elim z
  | cont =>
    obtain ⟨_, _, _, z⟩ := hs
    exact False.elim z
end
/-! ### the law's end -/
theorem script_relT {K : PySem.W.Frag} {CT : Cts} {H : Hp} {a : Addr} {ns : List Int} {ts : List Addr} (g0 : CT.gh = []) (t0 : ∀ p ∈ CT.tbs, p.1 ∈ ts) (hT : ∀ b ∈ ts, H b = some (.tbl #[])) (aT : a ∉ ts) (hO : ∀ b, H b = none ∨ b ∈ ts ∨ ∃ o xs, H b = some (.frz o (.lst xs))) (hS : SqL K H a (ns.map V.int)) :
    HR K CT (fun _ => a) (fun b => if b ∈ ts then none else H b) H [.frz (ns.map .int)] := by
  have ga : (if a ∈ ts then none else H a) = H a := if_neg aT
  refine ⟨fun i o e => ?_, fun i j oi oj ei ej ne ki kj => ?_, fun b o e => ?_, fun i o e k => ?_, ⟨fun x hx => (List.not_mem_nil (g0 ▸ hx)).elim, fun p hp => ?_, fun b ps e => ?_⟩⟩
  · cases i with
    | zero =>
      obtain rfl : PO.frz (ns.map .int) = o := by simpa using e
      refine ⟨ns.map V.int, ?_, rel_ints ns⟩
      rcases hS with (z | z) | z
      · rcases hO a with y | y | ⟨ob, xs, y⟩
        · rw [z] at y; cases y
        · exact absurd y aT
        · rw [z] at y; cases y
      · obtain ⟨o, z⟩ := z
        exact .inl ⟨o, ga.trans z⟩
      · exact .inr z
    | succ i => simp at e
  · cases i with
    | zero =>
      obtain rfl : PO.frz (ns.map .int) = oi := by simpa using ei
      cases ki
    | succ i => simp at ei
  · by_cases hb : b ∈ ts
    · rw [if_pos hb] at e
      cases e
    · rw [if_neg hb] at e
      exact e
  · cases i with
    | zero =>
      obtain rfl : PO.frz (ns.map .int) = o := by simpa using e
      cases k
    | succ i => simp at e
  · refine ⟨if_pos (t0 p hp), #[], hT _ (t0 p hp), trivial, fun pos cv hc => ?_⟩
    have z : codeAmong pos [] = some cv := hc
    simp [codeAmong] at z
  · by_cases hb : b ∈ ts
    · rw [if_pos hb] at e
      cases e
    · rw [if_neg hb] at e
      rcases hO b with y | y | ⟨ob, xs, y⟩
      · rw [y] at e; cases e
      · exact hb y
      · rw [y] at e; cases e
/-- the law's def, called by the judge: True comes out -/
theorem law_trueT {P : Program} {w : World} {K : PySem.W.Frag} {CT : Cts} {cl : Cl} {mg mb : Str → Option Value} {k : Nat} {fa a : Addr} {cs : List (Addr × Addr)} {fd : FuncData} {x : Str} {z : Shared} {us : List Value} {ns : List Int}
    (inK : K.In z.heap) (glob : z.heap.Ns mainGlobals mg) (blt : z.heap.Ns builtinsNs mb) (same : ∀ y : Str, y ≠ "__name__" → mb y = bootBuiltins y) (free : z.heap.NoLimit) (noGen : z.gens = #[])
    (hT : ∀ p ∈ cs, z.heap.get? p.2 = some { cls := .none, data := .fields #[] }) (nT : ∀ p ∈ cs, K.lookup p.2 = none) (hC : ∀ p ∈ cs, PySem.W.CodeHd z.heap p.1 p.2)
    (hbm : ∃ (bm : Addr) (ob : Obj), mg "__builtins__" = some (.ref bm) ∧ bm ≠ builtinsNs ∧ z.heap.get? bm = some ob ∧ ob.cls = .type "module" ∧ ob.dict = some builtinsNs ∧ ob.data = .plain)
    (obj : z.heap.get? a = some { cls := .type "list", data := .seq us.toArray }) (intz : IntsAre us ns) (few : ns.length ≤ sizeLine) (room : Room k callerA) (g0 : CT.gh = []) (t0 : ∀ p ∈ CT.tbs, p.1 ∈ cs.map (·.2))
    (F : ∀ base : Heap, K.In base → base.Ns mainGlobals mg → (∀ p ∈ cs, TabB base mg p.1 p.2) → FnG P w K mg base k fa fd [x] (spI K CT cl (.f "law"))) (bd : ∀ (s : Shared) (u : Value), BindsTo s fd ⟨[u], []⟩ [(x, u)])
    (ok : ∃ h', cl (.f "law") [.ref 0] [.frz (ns.map .int)] = .ok (.bl true) h') :
    codeAny (model P w) callerA (.call (.ref fa) ⟨[.ref a], []⟩) (fun r s' => r = .ok (.ret (.bool true)) ∧ OldK z.heap s'.heap ∧ s'.os = z.os ∧ AllBare s'.gens) z := by
  have vals := vals_ints intz
  have size : us.length = ns.length := intz.length
  have isT : ∀ b : Addr, b ∈ cs.map (·.2) → z.heap.get? b = some { cls := .none, data := .fields #[] } := fun b hb => by
    obtain ⟨p, hp, e⟩ := List.mem_map.mp hb
    rw [← e]
    exact hT p hp
  have aT : a ∉ cs.map (·.2) := fun q => by
    have q := isT a q
    rw [obj] at q
    have q' : Data.seq us.toArray _ = Data.fields #[] := congrArg Obj.data (Option.some.inj q)
    cases q'
  have memT : ∀ p ∈ cs, p.2 ∈ cs.map (·.2) := fun p hp => List.mem_map.mpr ⟨p, hp, rfl⟩
  have core : ∀ H : Hp, (∀ b ∈ cs.map (·.2), H b = some (.tbl #[])) → (∀ b, H b = none ∨ b ∈ cs.map (·.2) ∨ ∃ o xs, H b = some (.frz o (.lst xs))) → SqL K H a (ns.map V.int) → HOk P w H z.heap → (∀ b, H b ≠ none → b = a ∨ b ∈ cs.map (·.2)) → (H a ≠ none → K.lookup a = none) →
      codeAny (model P w) callerA (.call (.ref fa) ⟨[.ref a], []⟩) (fun r s' => r = .ok (.ret (.bool true)) ∧ OldK z.heap s'.heap ∧ s'.os = z.os ∧ AllBare s'.gens) z := by
    intro H hH hO hS hok hA hK
    have base_of : ∀ {b : Addr} {o : Obj}, z.heap.get? b = some o → H b = none → (hidT z.heap H).get? b = some o := fun e n => hidT_get e n
    have noD : ∀ {b : Addr} {o : Obj}, z.heap.get? b = some o → (∀ vs n, o.data ≠ .seq vs n) → o.data ≠ .fields #[] → H b = none := fun {b o} e h1 h2 => by
      cases q : H b with
      | none => rfl
      | some u =>
        rcases hA b (by rw [q]; simp) with e' | e'
        · rw [e', obj] at e
          cases e
          exact (h1 _ _ rfl).elim
        · rw [isT b e'] at e
          cases e
          exact (h2 rfl).elim
    have noA : ∀ {b : Addr} {o : Obj} {es : Array DictEntry} {ep : Nat}, z.heap.get? b = some o → o.data = .dict es ep → H b = none := fun {b o es ep} e d => by
      refine noD e (fun vs n q => ?_) fun q => ?_
      · rw [d] at q
        cases q
      · rw [d] at q
        cases q
    have nsK : ∀ {b : Addr} {m : Str → Option Value}, z.heap.Ns b m → (hidT z.heap H).Ns b m := fun {b m} ⟨o, es, ep, e, d, r⟩ => ⟨o, es, ep, base_of e (noA e d), d, r⟩
    have hKb : K.In (hidT z.heap H) := fun b o e => base_of (inK b o e) (by
      cases q : H b with
      | none => rfl
      | some u =>
        rcases hA b (by rw [q]; simp) with e' | e'
        · rw [e'] at e q
          rw [hK (by rw [q]; simp)] at e
          cases e
        · obtain ⟨p, hp, ep⟩ := List.mem_map.mp e'
          rw [← ep, nT p hp] at e
          cases e)
    obtain ⟨mc, l1, l2⟩ := id free
    have hM : L2.Mod K mg (hidT z.heap H) := ⟨hKb, nsK glob, ⟨mb, nsK blt, same⟩, ⟨mc, nsK l1, l2⟩⟩
    have TB : ∀ p ∈ cs, TabB (hidT z.heap H) mg p.1 p.2 := fun p hp => by
      have hTp := hT p hp
      refine ⟨?_, ?_, fun q => ?_⟩
      · obtain ⟨o, us, file, tf, flags, tg, inF, text, tt, e1, r1, r2, r3, r4, r5, r6, r7, r8, hne⟩ := hC p hp
        refine ⟨o, us, file, tf, flags, tg, inF, text, tt, base_of e1 (noD e1 (fun vs n q => ?_) fun q => ?_), r1, r2, r3, r4, r5, r6, r7, r8, hne⟩
        · rw [r2] at q
          cases q
        · rw [r2] at q
          cases q
          simp at r3
      · obtain ⟨bm, ob, b1, b2, b3, b4, b5, b6⟩ := hbm
        have nG : bm ≠ mainGlobals := fun q => by
          obtain ⟨o, es, ep, e, hd, _⟩ := glob
          rw [q, e] at b3
          cases b3
          rw [hd] at b6
          cases b6
        have nP : bm ≠ p.2 := fun q => by
          rw [q, hTp] at b3
          cases b3
          cases b6
        refine ⟨bm, ob, b1, b2, nG, nP, base_of b3 (noD b3 (fun vs n q => ?_) fun q => ?_), b4, b5, b6⟩
        · rw [b6] at q
          cases q
        · rw [b6] at q
          cases q
      · obtain ⟨o, es, ep, e, hd, _⟩ := glob
        rw [q, hTp] at e
        cases e
        cases hd
    have e0 : Env0 P w K mg (hidT z.heap H) callerA [] z H := ⟨rfl, hM, fun b o e => of_hidT e, Nat.le_of_eq (hidT_size _ _), trivial, fun b hb => absurd (show b ∈ ([] : List Addr) from hb) (by simp), hok, .of_eq noGen⟩
    have sp : spI K CT cl (.f "law") [.ref a] H (fun v _ => v = .bl true) fun _ _ _ => False := by
      obtain ⟨h', e⟩ := ok
      have q : Rel K (fun _ => a) [PO.frz (ns.map .int)].length (fun b => if b ∈ cs.map (·.2) then none else H b) (.ref 0) (.ref a) := .ref (n := 0) (m := fun _ => a) (by simp)
      refine ⟨fun _ => a, _, _, [.ref 0], script_relT g0 t0 hH aT hO hS, .cons q .nil, ?_⟩
      rw [e]
      exact fun _ _ _ b _ _ _ r => r.bl_inv
    refine codeAny_mono ((F _ hKb (nsK glob) TB).go callerA [] z H ⟨[.ref a], []⟩ [.ref a] [.ref a] _ _ room rfl e0 (bd z (.ref a)) (.cons rfl .nil) sp) fun r s' h => ?_
    match r, h with
    | .error e, h =>
      obtain ⟨_, _, _, _, _, _, _, _, _, _, _, _, no⟩ := h
      exact no.elim
    | .ok .next, h => exact False.elim h
    | .ok .brk, h => exact False.elim h
    | .ok .cont, h => exact False.elim h
    | .ok (.ret u), ⟨v, H', os, bare, un, hok', r', q⟩ =>
      have q' : v = .bl true := q
      subst q'
      obtain rfl : u = Value.bool true := r'
      have key : ∀ b o, b ∉ cs.map (·.2) → z.heap.get? b = some o → s'.heap.get? b = some o := fun b o nb e => by
        rcases hO b with y | y | ⟨ob, xs, y⟩
        · exact un.keep b o e y (by intro q; exact absurd (show b ∈ ([] : List Addr) from q) (by simp)) (by simp)
        · exact absurd y nb
        · have z2 := un.frzs b ob _ y
          obtain ⟨e1, _⟩ := hok b _ y
          obtain ⟨e2, _⟩ := hok' b _ z2
          rw [e] at e1; cases e1
          exact e2
      have grown : ∀ p ∈ cs, ∃ more : Array Value, s'.heap.get? p.2 = some { cls := .none, data := .fields more } := fun p hp => by
        obtain ⟨more, q⟩ := un.tbls p.2 #[] (hH p.2 (memT p hp))
        exact ⟨_, hok' p.2 _ q⟩
      refine ⟨rfl, ⟨fun b o e => ?_, fun b o e => ?_⟩, os, bare⟩
      · by_cases hb : b ∈ cs.map (·.2)
        · obtain ⟨p, hp, ep⟩ := List.mem_map.mp hb
          obtain ⟨more, hm⟩ := grown p hp
          rw [← ep] at e ⊢
          rw [hT p hp] at e
          cases e
          exact .inr (.inl ⟨((hC p hp).tab (hT p hp)).isCodeTable, rfl, #[], more, rfl, by rw [Array.empty_append]; exact hm⟩)
        · exact .inl (key b o hb e)
      · by_cases hb : b ∈ cs.map (·.2)
        · obtain ⟨p, hp, ep⟩ := List.mem_map.mp hb
          obtain ⟨more, hm⟩ := grown p hp
          rw [← ep]
          exact ⟨_, hm⟩
        · exact ⟨o, key b o hb e⟩
  cases hk : K.lookup a with
  | some o =>
    have e := inK a o hk
    rw [obj] at e
    cases e
    refine core (fun b => if b ∈ cs.map (·.2) then some (.tbl #[]) else none) (fun b hb => if_pos hb) (fun b => ?_) (.inr ⟨_, us.toArray, _, hk, rfl, rfl, rfl, by rw [List.size_toArray, size]; exact few, by simpa using vals⟩) (fun b u q => ?_) (fun b q => ?_) fun q => absurd (show (if a ∈ cs.map (·.2) then some (HO.tbl #[]) else none) = none from if_neg aT) q
    · by_cases hb : b ∈ cs.map (·.2)
      · exact .inr (.inl hb)
      · exact .inl (if_neg hb)
    · by_cases hb : b ∈ cs.map (·.2)
      · have q' := (if_pos hb).symm.trans q
        cases q'
        exact isT b hb
      · have q' := (if_neg hb).symm.trans q
        cases q'
    · by_cases hb : b ∈ cs.map (·.2)
      · exact .inr hb
      · exact absurd (if_neg hb) q
  | none =>
    refine core (fun b => if b = a then some (.frz { cls := .type "list", data := .seq us.toArray } (.lst (ns.map V.int))) else if b ∈ cs.map (·.2) then some (.tbl #[]) else none) (fun b hb => (if_neg (show ¬ b = a from fun q => aT (by rw [← q]; exact hb))).trans (if_pos hb)) (fun b => ?_)
      (.inl (.inr ⟨{ cls := .type "list", data := .seq us.toArray }, if_pos rfl⟩)) (fun b u q => ?_) (fun b q => ?_) fun _ => hk
    · by_cases hb : b = a
      · exact .inr (.inr ⟨_, _, if_pos hb⟩)
      · by_cases hb2 : b ∈ cs.map (·.2)
        · exact .inr (.inl hb2)
        · exact .inl ((if_neg hb).trans (if_neg hb2))
    · by_cases hb : b = a
      · have q' := (if_pos hb).symm.trans q
        cases q'
        rw [hb]
        exact ⟨obj, by rw [List.length_map]; exact few, us, _, vals, obj⟩
      · have q1 := (if_neg hb).symm.trans q
        by_cases hb2 : b ∈ cs.map (·.2)
        · have q' := (if_pos hb2).symm.trans q1
          cases q'
          exact isT b hb2
        · have q' := (if_neg hb2).symm.trans q1
          cases q'
    · by_cases hb : b = a
      · exact .inl hb
      · by_cases hb2 : b ∈ cs.map (·.2)
        · exact .inr hb2
        · exact absurd ((if_neg hb).trans (if_neg hb2)) q
/-! ### the facts, with tables -/
/-- all but the tables of code -/
def noTab (g : Addr → Option Obj) (a : Addr) : Bool := match g a with
  | some ⟨.none, _, .fields _, _⟩ => false
  | _ => true
def frL (g : Addr → Option Obj) (n : Nat) : PySem.W.Frag := He.frG g ((sysModules :: PySem.cStatics :: He.asD g n).filter (noTab g))
abbrev ObsL : Type := Obs × List (Option Obj)
def obsLG (n : Nat) (xs : List (PySem.W.Frag → Bool)) (fa : List He.Fa) (fn : List He.DefD) (ts : List He.Tab) (mks : List String) (g : Addr → Option Obj) : ObsL := (obsM xs fa fn ts (frL g n), mks.map fun x => g (pOf (frL g n) (He.ga (frL g n) (SO x))))
def hookL (n : Nat) (xs : List (PySem.W.Frag → Bool)) (fa : List He.Fa) (fn : List He.DefD) (ts : List He.Tab) (mks : List String) : PySem.W.Hook where
  α := ObsL
  obs := fun s => obsLG n xs fa fn ts mks s.heap.get?
  val := fun w => ((true, He.valT fn ts w), mks.map fun _ => some (PySem.W.tabObj #[]))
  says := fun w h => ∃ K : PySem.W.Frag, K.In h ∧ SaysM xs fa fn ts w K ∧ ∀ x ∈ mks, h.get? (pOf K (He.ga K (SO x))) = some (PySem.W.tabObj #[])
  of := fun w s e => ⟨_, He.frG_in, (Prod.mk.inj e).1, fun x hx => List.map_inj_left.mp (Prod.mk.inj e).2 x hx⟩
  keeps := fun _ _ _ ⟨K, inK, c, t⟩ k => ⟨K, PySem.W.Frag.In.keeps inK k, c, fun x hx => k _ _ (t x hx)⟩
theorem obsLG_eq {n : Nat} {xs : List (PySem.W.Frag → Bool)} {fa : List He.Fa} {fn : List He.DefD} {ts : List He.Tab} {mks : List String} {g : Addr → Option Obj} {s : Shared} (h : ∀ a, g a = s.heap.get? a) : obsLG n xs fa fn ts mks g = (hookL n xs fa fn ts mks).obs s := by
  have e : s.heap.get? = g := funext fun a => (h a).symm
  show _ = obsLG n xs fa fn ts mks s.heap.get?
  rw [e]
/-- the walk of the law row, where lambdas are made -/
theorem walkL {l : PySem.W.OpenLaw} {k : Nat} {q : Program} {loose : List Str} {XP : (Str → Option Value) → Heap → Prop} {YP : World → Heap → Prop} {d : DefRec} {cl : Cl} {x : Str}
    (most : l.most = some 63) (noDef : d.params.defaults = []) (room : Room k callerA)
    (F : ∀ (w : World) (mg : Str → Option Value) (fa : Addr) (h : Heap), YP w h → h.Ns mainGlobals mg → mg d.name = some (.ref fa) →
      ∃ (K : PySem.W.Frag) (fd : FuncData) (CT : Cts) (cs : List (Addr × Addr)), CT.gh = [] ∧ (∀ p ∈ CT.tbs, p.1 ∈ cs.map (·.2)) ∧ K.In h ∧ (∀ p ∈ cs, h.get? p.2 = some { cls := .none, data := .fields #[] }) ∧ (∀ p ∈ cs, K.lookup p.2 = none) ∧ (∀ p ∈ cs, PySem.W.CodeHd h p.1 p.2) ∧
        (∀ (s : Shared) (u : Value), BindsTo s fd ⟨[u], []⟩ [(x, u)]) ∧ ∀ base : Heap, K.In base → base.Ns mainGlobals mg → (∀ p ∈ cs, TabB base mg p.1 p.2) → FnG l.prog w K mg base k fa fd [x] (spI K CT cl (.f "law")))
    (ok : ∀ ns : List Int, ns.length ≤ 63 → ∃ h', cl (.f "law") [.ref 0] [.frz (ns.map .int)] = .ok (.bl true) h') :
    PySem.W.WalkO q loose XP YP l.row.toRowW d [] (fun f vs => PySem.call f vs) :=
  Att.attach_call most noDef fun w s0 z mg mb fa o pm cd doc a us ns G Y ho hd hcd hmg obj intz few noGen => by
    obtain ⟨K, fd, CT, cs, g0, t0, inK, hT, nT, hC, bd, hF⟩ := F w mg fa _ Y G.T.g hmg
    exact law_trueT inK G.T.g G.T.b G.T.builtins G.T.nolimit noGen hT nT hC G.T.bmain obj intz (by rw [sizeLine_eq]; omega) room g0 t0 hF bd (ok ns few)
theorem tbs_hu {l : List (Addr × Str)} (nd : (l.map (·.1)).Nodup) {P : Addr} {q : Str} (hm : (P, q) ∈ l) : ∀ p ∈ l, p.1 = P → p.2 = q := by
  induction l with
  | nil => cases hm
  | cons a r ih =>
    rw [List.map_cons, List.nodup_cons] at nd
    intro p hp e
    rcases List.mem_cons.mp hm with h1 | h1 <;> rcases List.mem_cons.mp hp with h2 | h2
    · rw [h2, ← h1]
    · exact absurd (List.mem_map.mpr ⟨p, h2, by rw [e, ← h1]⟩) nd.1
    · exact absurd (List.mem_map.mpr ⟨_, h1, by rw [← e, h2]⟩) nd.1
    · exact ih nd.2 h1 p h2 e
/-- calls, from within a def that got a lambda -/
theorem Cal.clL {P : Program} {w : World} {K : PySem.W.Frag} {mg : Str → Option Value} {base : Heap} {CT : Cts} {cl : Cl} {k n0 : Nat} {kb : PH → R PV} {g : String} {a : Addr} (C : Cal P w K mg base CT cl k (.f g) a) : Cal P w K mg base CT (Mi.clL cl n0 kb) k (.f g) a := ⟨C.ex⟩
end Mi

set_option Elab.async false
set_option linter.all false
set_option maxRecDepth 100000
/-! Mk5: own classes without an __init__. -/
namespace Mi
open PySem PySem.Spec PyProof.Rows L2
def plB (K : PySem.W.Frag) (C : Addr) : Bool := PySem.W.makesIn K C && decide (PySem.W.findIn K (.ref C) "__init__" = some (some (.builtin "object.__init__"))) && PySem.W.keepIn K (.ref C) && decide (PySem.W.mroIn K C (.type "object") = some true)
theorem newP {t : FN → Option Fn} {n : Nat} {c : String} (e : t (.m c "__init__") = some ⟨1, 0, [.pass]⟩) (v : PV) (h : PH) : callN t n (.m c "__init__") [v] h = .bad ∨ callN t n (.m c "__init__") [v] h = .ok .non h := by
  cases n with
  | zero => exact .inl rfl
  | succ n =>
    right
    simp only [callN, e]
    rfl
section
variable {X : Cx} {CT : Cts} {cl : Cl} {W : WX}
theorem I_newP {c : String} {x : Str} {C : Addr} {p pos : Pos} (pl : plB X.K C = true) (ct : CT.ins c C) (hi : ∀ v h, cl (.m c "__init__") [v] h = .bad ∨ cl (.m c "__init__") [v] h = .ok .non h) (hg : Gl X x) (hm : X.mg x = some (.ref C)) (hdb : (x == ("__debug__" : Str)) = false) :
    PE X (.Call (.Name x p) [] [] pos) (tE X.K CT cl W (.new c [])) := by
  unfold plB at pl
  simp only [Bool.and_eq_true, decide_eq_true_eq] at pl
  obtain ⟨⟨⟨mk, ini⟩, kp⟩, top⟩ := pl
  refine ⟨fun pins s σ H Q I ⟨m, G, h, ρ, R, sr, q⟩ => ?_⟩
  simp only [ev, evs, bind_ok] at q
  refine wpAny_Call_Name_kw (ld_glob I hg hm ?_ hdb)
  refine PySem.W.callWith_K0 I.kIn kp ?_
  rcases hi (.ref h.length) (h ++ [.ins c []]) with e | e
  · rw [e] at q
    exact q.elim
  rw [e, bind_ok, if_pos rfl] at q
  have f1 : H (s.heap.objs.size + 1) = none := I.hok.fresh (Nat.le_succ _)
  have f2 : H s.heap.objs.size = none := I.hok.fresh (Nat.le_refl _)
  have I2 := Inv.made (C := C) I
  have R2 : HR X.K CT (mx m h.length (s.heap.objs.size + 1)) G (upd (upd H s.heap.objs.size (.own (s.heap.objs.size + 1))) (s.heap.objs.size + 1) (.ins C s.heap.objs.size [])) (h ++ [.ins c []]) := R.new (p := s.heap.objs.size + 1) (o := .ins c []) f1 (fun b hb => by
    rw [upd_ne fun z => hb (by rw [z]; exact f1), upd_ne fun z => hb (by rw [z]; exact f2)]) ⟨C, _, [], ct, upd_same, trivial⟩ rfl
  have rx : Rel X.K (mx m h.length (s.heap.objs.size + 1)) (h ++ [PO.ins c []]).length G (.ref h.length) (.ref (s.heap.objs.size + 1)) := by
    have z : Rel X.K (mx m h.length (s.heap.objs.size + 1)) (h ++ [PO.ins c []]).length G (.ref h.length) (.ref (mx m h.length (s.heap.objs.size + 1) h.length)) := .ref (by simp)
    rw [mx_new] at z
    exact z
  have fin := q _ G _ _ mx_ex Sub.refl R2 rx
  refine wpAny_call (make_map0 I.kIn mk ini (fun self => PySem.W.Looks.of_pure (PySem.W.oi_bind _)) ?_)
  have ho : ((s.heap.push PySem.W.emptyDict).push (PySem.W.instObj C s.heap.objs.size)).get? (s.heap.objs.size + 1) = some (PySem.W.instObj C s.heap.objs.size) := by heap_get
  have t1 := NwA.type_at (M := model X.prog X.w) ho (C := C) rfl
  have t2 : PySem.W.Looks (model X.prog X.w) ((s.heap.push PySem.W.emptyDict).push (PySem.W.instObj C s.heap.objs.size)) (isInstance (.ref (s.heap.objs.size + 1)) (.type "object")) true := t1.andThen (PySem.W.looks_mroIn I2.kIn top)
  refine codeAny_call_builtin PySem.W.oi_plain PySem.W.entry_oi (@PySem.W.check_slot (model X.prog X.w) _ _ _ "object.__init__" "object" "__init__" (.ref (s.heap.objs.size + 1)) [] [] _ PySem.W.oi_kind PySem.W.oi_split t2 (NwA.oi_args_any _ [] []) ?_)
  rw [PySem.W.oi_run]
  exact wpAny_pure (And.intro rfl ⟨V.ref (s.heap.objs.size + 1), _, I2, rfl, fin⟩)
end
end Mi

set_option Elab.async false
set_option linter.all false
set_option maxRecDepth 100000
/-! Mk6: len(set(xs)) of a list or a tuple of ints. -/
namespace Mi
open PySem PySem.Spec PyProof.Rows L2
theorem card_eq {a b : List Int} (ha : a.Nodup) (hb : b.Nodup) (h : ∀ k, k ∈ a ↔ k ∈ b) : a.length = b.length := by
  have one : ∀ {a b : List Int}, a.Nodup → (∀ k, k ∈ a → k ∈ b) → a.length ≤ b.length := by
    intro a
    induction a with
    | nil => intro b _ _; exact Nat.zero_le _
    | cons x r ih =>
      intro b nd hm
      have hx := hm x List.mem_cons_self
      have nd2 := List.nodup_cons.mp nd
      have z := ih (b := b.erase x) nd2.2 fun k hk => by
        have ne : k ≠ x := fun e => nd2.1 (e ▸ hk)
        exact (List.mem_erase_of_ne ne).mpr (hm k (List.mem_cons_of_mem _ hk))
      have l := List.length_erase_of_mem hx
      have p : 0 < b.length := List.length_pos_of_mem hx
      simp only [List.length_cons]
      omega
  exact Nat.le_antisymm (one ha fun k hk => (h k).mp hk) (one hb fun k hk => (h k).mpr hk)
section
variable {X : Cx} {CT : Cts} {cl : Cl} {W : WX} {e : Expr} {c : E} {pos p p2 q2 : Pos}
theorem I_lset (hcl : GroC cl) (hc : X.calm = true) (hg : Gl X "len") (hm : X.mg "len" = none) (hg2 : Gl X "set") (hm2 : X.mg "set" = none) (h1 : PE X e (tE X.K CT cl W c)) (na : starEach [e] X.env = (false, eval e X.env) :: starEach [] X.env) :
    PE X (.Call (.Name "len" p) [.Call (.Name "set" p2) [e] [] q2] [] pos) (tE X.K CT cl W (.blt "len set" [c])) := by
  refine ⟨fun pins s σ H Q I ⟨m, G, h, ρ, R, sr, q⟩ => ?_⟩
  have z : ev cl (.blt "len set" [c]) ρ h = (ev cl c ρ h).bind fun x h1 => bltV "len set" [x] h1 := by
    simp only [ev, evs]
    cases ev cl c ρ h <;> rfl
  rw [z] at q
  refine Call_ (ld_blt I hg hm boot_len ?_)
  refine PyProof.Rows.callWith_builtin1 (PyProof.Rows.args_cons ?_ rfl) rfl rfl
  refine Call_ (ld_blt I hg2 hm2 boot_set ?_)
  refine PyProof.Rows.callWith_type1 (PyProof.Rows.args_cons (thn (h1.run pins s σ H _ I (tE_first (Q1 := fun v H1 => ∃ m1 G1 h1 x, HR X.K CT m1 G1 H1 h1 ∧ Rel X.K m1 h1.length G1 x v ∧ Post X.K CT (Rel X.K) W σ m1 G1 h1.length Q (bltV "len set" [x] h1)) hcl R sr q fun x v h1 m1 G1 H1 _ _ _ R1 _ r1 q1 => ⟨m1, G1, h1, x, R1, r1, q1⟩)) fun v s1 ⟨u, H1, I1, r1, m1, G1, h2, x, R1, rx, q1⟩ => PyProof.Rows.args_nil ?_) na) na rfl
  simp only [bltV] at q1
  split at q1
  · rename_i ns en
    split at q1
    · rename_i few
      cases es : seqOf x h2 with
      | none => rw [es] at en; cases en
      | some ys =>
        rw [es] at en
        obtain ⟨b, vs, rfl, hb, rl⟩ := seq_at R1 rx es
        obtain ⟨rfl, _⟩ := ints_rel rl en
        cases r1
        have fin : ∀ (h' : Heap) (tk cc : Nat), SetR X.w h' s1.heap.objs.size (fun j => decide (j ∈ ns)) cc → (∀ b o, s1.heap.get? b = some o → h'.get? b = some o) →
            wpAny (model X.prog X.w) X.A (call (.builtin "len") [.ref s1.heap.objs.size]) (EP X pins σ Q) X.xe { s1 with heap := h', toks := tk } := by
          intro h' tk cc S kp
          obtain ⟨o, es, ep, t, ho, hex, hd, _, nd, mem, lt, hf, hn, _⟩ := S
          have I2 : L2.Inv X pins σ H1 { s1 with heap := h', toks := tk } := I1.kept kp
          have card : es.size = (sortU ns).length := by
            have c1 : (es.toList.map keyOf).length = (sortU ns).length := card_eq nd ((sortU_asc ns).imp fun h => Int.ne_of_lt h) fun k => by
              rw [← mem k, decide_eq_true_iff, sortU_mem]
            simpa using c1
          have sb : (scanBound : Nat) < 2 ^ 62 := by decide
          refine call_len_set ho hex hd hf (by omega) ⟨.int (es.size : Nat), H1, I2.tok _, ⟨_, rfl⟩, ?_⟩
          rw [card]
          exact q1.now R1 (.int _)
        rcases hb with hb | ⟨hb, _⟩
        · obtain ⟨its, vs2, pl, _⟩ := I1.list hb
          refine make_set ns (I1.ok.hd hc) pl.isList (by simpa using vs2.ints) (by unfold scanBound; omega) fun g t cc S le kp => PyProof.Rows.args_nil (fin g t cc S kp)
        · obtain ⟨its, vs2, ht, _⟩ := I1.tuple hb
          refine call_set_tupI ns (I1.ok.hd hc) ht (by simpa using vs2.ints) (by unfold scanBound; omega) fun g t cc S le kp => PyProof.Rows.args_nil (fin g t cc S kp)
    · exact q1.elim
  · exact q1.elim
end
end Mi

set_option Elab.async false
set_option linter.all false
set_option maxRecDepth 100000
/-! Mk7: an instance is called: its own __call__. -/
namespace Mi
open PySem PySem.Spec PyProof.Rows L2
/-! ### arguments that change nothing -/
def quietE : E → Bool
  | .v _ => true
  | .k _ => true
  | _ => false
theorem quiet_ev {cl : Cl} {c : E} {ρ : Mi.Env} {h : PH} (q : quietE c = true) : (∃ v, ev cl c ρ h = .ok v h) ∨ ev cl c ρ h = .bad := by
  cases c with
  | v i =>
    simp only [ev]
    cases ρ[i]? with
    | none => exact .inr rfl
    | some o =>
      cases o with
      | none => exact .inr rfl
      | some v => exact .inl ⟨v, rfl⟩
  | k c => exact .inl ⟨c, by simp only [ev]⟩
  | _ => cases q
theorem quiet_evs {cl : Cl} {ρ : Mi.Env} {h : PH} : ∀ {cs : List E}, cs.all quietE = true → (∃ vs, evs cl cs ρ h = .ok vs h) ∨ evs cl cs ρ h = .bad
  | [], _ => .inl ⟨[], by simp only [evs]⟩
  | c :: cs, q => by
    rw [List.all_cons, Bool.and_eq_true] at q
    simp only [evs]
    rcases quiet_ev (cl := cl) (ρ := ρ) (h := h) q.1 with ⟨v, e⟩ | e
    · rw [e]
      rcases quiet_evs (cl := cl) (ρ := ρ) (h := h) q.2 with ⟨vs, e2⟩ | e2
      · exact .inl ⟨v :: vs, by rw [bind_ok, e2, bind_ok]⟩
      · exact .inr (by rw [bind_ok, e2]; rfl)
    · rw [e]
      exact .inr rfl
/-! ### the call -/
section
variable {M : Model} {A : Around} {Er : Value → Shared → Prop} {s : Shared} {pos : Pos} {x : Addr} {first : List Value} {Q : Value → Shared → Prop}
theorem callWith_own {args : List (Bool × Sem Value)} {kws : List (Option Str × Sem Value)} (hp : (args.any (·.1) || kws.any (·.1.isNone)) = false)
    (h : wpAny M A (evalArgs (.ref x) true args kws) (fun a s₁ => (∃ C ox od, PySem.W.InstAt s₁.heap x ox C od ∧ ox.data = .plain) ∧ wpAny M A (call (.ref x) (first ++ a.pos) a.kw) Q Er s₁) Er s) : wpAny M A (callWith pos (.ref x) first args kws) Q Er s := by
  unfold callWith
  refine wpAny_bind (wpAny_holding (wpAny_mono h (fun a s₁ h₁ => wpAny_bind (wpAny_standAt ?_)) fun _ _ y => y))
  obtain ⟨⟨C, ox, od, I, hd⟩, hc⟩ := h₁
  have keeper := PySem.W.kco_keeper (M := M) I hd
  simp only [hp]
  refine wpAny_bind (keeper.here ?_)
  refine wpAny_bind (wpAny_mono (wpAny_operateT hc) (fun r s₂ hr => wpAny_bind (wpAny_holding (wpAny_point (wpAny_pure hr)))) fun _ _ y => y)
end
section
variable {X : Cx} {CT : Cts} {cl : Cl} {W : WX} {k : Nat} {e : Expr} {es : List Expr} {cs : List E} {pos p : Pos}
/-- x(e, ..), x an instance -/
theorem I_ocall {ks : List String} {i : Nat} {x : Str} (hcl : GroC cl) (M : Mto X.prog X.w X.K X.mg X.base CT cl k "__call__" ks) (fn : ∀ c, c ∈ ks → ∀ C g, CT.ins c C → PySem.W.findIn X.K (.ref C) "__call__" = some (some (.ref g)) → PySem.W.fnIn X.K g = true) (hr : Room k X.A) (hgd : X.A.guards = some []) (tk : Takes X W)
    (hN : X.N[i]? = some x) (hv : Vis X.env.scope x) (hd : (x == ("__debug__" : Str)) = false) (hcd : (x == ("__classdict__" : Str)) = false) (qt : cs.all quietE = true) (ha : PA X (e :: es) (tA X.K CT cl W cs))
    (hst : starEach (e :: es) X.env = (false, eval e X.env) :: starEach es X.env) (hpl : (backTo pos (starEach es X.env)).any (·.1) = false) :
    PE X (.Call (.Name x p) (e :: es) [] pos) (tE X.K CT cl W (.mto "__call__" ks (.v i) cs)) := by
  refine ⟨fun pins s σ H Q I ⟨m, G, h, ρ, R, sr, q⟩ => ?_⟩
  simp only [ev] at q
  cases e0 : ρ[i]? with
  | none => rw [e0] at q; exact q.elim
  | some o =>
    rw [e0] at q
    cases o with
    | none => exact q.elim
    | some px =>
      obtain ⟨v, ev0, rv⟩ := sr.2 i px e0
      simp only [bind_ok] at q
      cases hc0 : clsOf px "__call__" ks h with
      | none => rw [hc0] at q; exact q.elim
      | some c0 =>
        rw [hc0] at q
        simp only at q
        obtain ⟨n, fs, rfl, ek, hl, hk⟩ := cls_of hc0
        obtain ⟨rfl, hn⟩ := rv.ref_inv
        refine wpAny_Call_Name_kw (thn ((pe_var (pos := p) (i := i) hN hv hd hcd).run pins s σ H (fun v H1 => v = .ref (m n) ∧ H1 = H) I ⟨.ref (m n), ev0, rfl, rfl⟩) fun u s1 ⟨v1, H1, I1, r1, ev1, eH⟩ => ?_)
        subst ev1
        subst eH
        obtain rfl : u = Value.ref (m n) := r1
        have evq : (∃ vs, evs cl cs ρ h = .ok vs h) ∨ evs cl cs ρ h = .bad := quiet_evs qt
        rcases evq with ⟨ws, ew⟩ | ew
        · refine callWith_own (by rw [hst]; show ((false || (backTo pos (starEach es X.env)).any (·.1)) || false) = false; rw [hpl]; rfl) ?_
          rw [hst]
          refine Calls.evalArgs_plain ?_
          have z : spliced (backTo pos (starEach (e :: es) X.env)) = spliced ((false, eval e X.env) :: backTo pos (starEach es X.env)) := by
            rw [hst]
            rfl
          have q' : Post X.K CT (Rel X.K) W σ m G h.length Q ((evs cl cs ρ h).bind fun vs h2 => if h2 = h then cl (.m c0 "__call__") (.ref n :: vs) h2 else .bad) := by
            rw [ew, bind_ok] at q ⊢
            rw [if_pos rfl]
            exact q
          have hrun := ha.run pos pins s1 σ _ (fun vs H2 => ∃ m2 G2 pvs, HR X.K CT m2 G2 H2 h ∧ m2 n = m n ∧ RelL X.K m2 h.length G2 pvs vs ∧ Post X.K CT (Rel X.K) W σ m2 G2 h.length Q (cl (.m c0 "__call__") (.ref n :: pvs) h)) I1 (tA_first hcl R sr q' fun xs vs h2 m2 G2 H2 ex sg le R2 _ rl q2 => by
            split at q2
            · rename_i eh
              subst eh
              exact ⟨m2, G2, xs, R2, ex n hn, rl, q2⟩
            · exact q2.elim)
          rw [z] at hrun
          · refine thn hrun fun us s2 ⟨vs, H2, I2, r, m2, G2, pvs, R2, em, rl, q2⟩ => ?_
            obtain ⟨C, dx, gs, ct, hH, rf⟩ := R2.ins ek
            rw [em] at hH
            obtain ⟨g, hc, hm, F⟩ := M.ex c0 hk C ct
            obtain ⟨mA, O, _⟩ := ins_get I2.hok hH
            have inst : ∃ od, PySem.W.InstAt s2.heap (m n) ⟨.ref C, some dx, .plain, #[]⟩ C od := by
              obtain ⟨o, es2, ep, e2, _⟩ := O.ns
              exact ⟨some o, ⟨O.obj, rfl, rfl, e2⟩⟩
            obtain ⟨od, inst⟩ := inst
            refine ⟨⟨C, _, od, inst, rfl⟩, ?_⟩
            obtain ⟨fd, ps, Fg, hb⟩ := F.ex
            have rl2 : RelL X.K m2 h.length G2 (.ref n :: pvs) (.ref (m n) :: vs) := by
              have z : Rel X.K m2 h.length G2 (.ref n) (.ref (m2 n)) := .ref hn
              rw [em] at z
              exact .cons z rl
            have r2 : Vals (V.ref (m n) :: vs) (Value.ref (m n) :: us) := .cons rfl r
            have hsp : spI X.K CT cl (.m c0 "__call__") (.ref (m n) :: vs) H2 Q (fun cls d H' => W cls d σ H') := ⟨m2, G2, h, .ref n :: pvs, R2, rl2, q2.slots fun _ _ _ z => z⟩
            have hl2 : (Value.ref (m n) :: us).length = ps.length := by rw [← r2.length]; exact Fg.ar _ _ _ _ hsp
            have hbd : BindsTo s2 fd ⟨Value.ref (m n) :: us, []⟩ (ps.zip (Value.ref (m n) :: us)) := by
              have q := hb s2 (Value.ref (m n) :: us) I2.kIn (by rw [List.append_nil]; exact hl2)
              rw [List.append_nil] at q
              exact q
            refine wpAny_call (PySem.W.kco_code I2.kIn inst rfl hm.at_ hm.fn (fn c0 hk C g ct hm.at_) (codeAny_mono (Fg.go X.A X.stack s2 H2 ⟨Value.ref (m n) :: us, []⟩ (Value.ref (m n) :: us) (.ref (m n) :: vs) Q _ hr hgd I2.env0 hbd r2 hsp) fun r s' hq => ?_))
            cases r with
            | error e => exact tk e s' (XE.of_call I2 (fun _ _ _ z => z) hq)
            | ok fl =>
              cases fl with
              | ret u => exact I2.after hq
              | next => exact False.elim hq
              | brk => exact False.elim hq
              | cont => exact False.elim hq
        · rw [ew] at q
          exact q.elim
end
end Mi

set_option Elab.async false
set_option linter.all false
set_option maxRecDepth 100000
/-! Mk8: len of an instance: its own __len__. -/
namespace Mi
open PySem PySem.Spec PyProof.Rows L2
section
variable {X : Cx} {CT : Cts} {cl : Cl} {W : WX} {k : Nat} {a : Addr} {f : FN}
/-- a def called by a built-in, one code deeper -/
theorem run_cal1 (F : Cal X.prog X.w X.K X.mg X.base CT cl k f a) (hr : Room (k + 1) X.A) (hg : X.A.guards = some []) (tk : Takes X W) {pins : List (Addr × Obj)} {σ : L2.St} {H : Hp} {s : Shared} {Q : VK} {us : List Value} {vs : List V} {m : Nat → Addr} {G : Hp} {h : PH} {pvs : List PV}
    (I : Inv X pins σ H s) (r : Vals vs us) (R : HR X.K CT m G H h) (rl : RelL X.K m h.length G pvs vs) (p : Post X.K CT (Rel X.K) W σ m G h.length Q (cl f pvs h)) : wpAny (model X.prog X.w) X.A.in1 (call (.ref a) us) (EP X pins σ Q) X.xe s := by
  obtain ⟨fd, ps, F, hb⟩ := F.ex
  have hsp : spI X.K CT cl f vs H Q (fun cls d H' => W cls d σ H') := ⟨m, G, h, pvs, R, rl, p.slots fun _ _ _ z => z⟩
  have hl : us.length = ps.length := by rw [← r.length]; exact F.ar _ _ _ _ hsp
  have hbd : BindsTo s fd ⟨us, []⟩ (ps.zip us) := by
    have q := hb s us I.kIn (by rw [List.append_nil]; exact hl)
    rw [List.append_nil] at q
    exact q
  refine wpAny_call (codeAny_mono (F.go X.A.in1 X.stack s H ⟨us, []⟩ us vs Q _ hr.in1 hg I.env0.in1 hbd r hsp) fun r s' hq => ?_)
  cases r with
  | error e => exact tk e s' (XE.of_call I (fun _ _ _ z => z) hq)
  | ok fl =>
    cases fl with
    | ret u => exact I.after hq
    | next => exact False.elim hq
    | brk => exact False.elim hq
    | cont => exact False.elim hq
theorem inst_at {pins : List (Addr × Obj)} {σ : L2.St} {H : Hp} {s : Shared} {C dx a : Addr} {gs : List (Str × V)} (I : Inv X pins σ H s) (hH : H a = some (.ins C dx gs)) : ∃ od, PySem.W.InstAt s.heap a ⟨.ref C, some dx, .plain, #[]⟩ C od := by
  obtain ⟨mA, O, _⟩ := ins_get I.hok hH
  obtain ⟨o, es2, ep, e2, _⟩ := O.ns
  exact ⟨some o, ⟨O.obj, rfl, rfl, e2⟩⟩
theorem Post.lenR {Q : VK} {σ : L2.St} {m : Nat → Addr} {G : Hp} {N : Nat} {r : R PV} (p : Post X.K CT (Rel X.K) W σ m G N Q (r.bind lenR)) : Post X.K CT (Rel X.K) W σ m G N (fun v H' => ∃ i : Int, v = .int i ∧ 0 ≤ i ∧ i < 4611686018427387904 ∧ Q (.int i) H') r := by
  cases r with
  | ok v h' =>
    intro m' G' H' b e1 e2 e3 e4
    rw [bind_ok] at p
    unfold Mi.lenR at p
    split at p
    · rename_i i
      split at p
      · rename_i hi
        exact ⟨i, e4.int_inv, hi.1, hi.2, p m' G' H' (.int i) e1 e2 e3 (.int _)⟩
      · exact p.elim
    · exact p.elim
  | exc x h' => exact p
  | bad => exact p
variable {e : Expr} {c : E} {pos p : Pos}
theorem I_ln {ks : List String} (hcl : GroC cl) (M : Mto X.prog X.w X.K X.mg X.base CT cl k "__len__" ks) (hr : Room (k + 1) X.A) (hgd : X.A.guards = some []) (tk : Takes X W) (hg : Gl X "len") (hm : X.mg "len" = none) (h1 : PE X e (tE X.K CT cl W c)) (na : starEach [e] X.env = (false, eval e X.env) :: starEach [] X.env) :
    PE X (.Call (.Name "len" p) [e] [] pos) (tE X.K CT cl W (.ln ks c)) := by
  refine ⟨fun pins s σ H Q I ⟨m, G, h, ρ, R, sr, q⟩ => ?_⟩
  simp only [ev] at q
  refine Call_ (ld_blt I hg hm boot_len ?_)
  refine PyProof.Rows.callWith_builtin1 (PyProof.Rows.args_cons (thn (h1.run pins s σ H _ I (tE_first (Q1 := fun v H1 => ∃ m1 G1 h1 x, HR X.K CT m1 G1 H1 h1 ∧ Rel X.K m1 h1.length G1 x v ∧ Post X.K CT (Rel X.K) W σ m1 G1 h1.length Q (match clsOf x "__len__" ks h1 with
    | some c => (cl (.m c "__len__") [x] h1).bind fun r h2 => lenR r h2
    | none => bltV "len" [x] h1)) hcl R sr q fun x v h1 m1 G1 H1 _ _ _ R1 _ r1 q1 => ⟨m1, G1, h1, x, R1, r1, q1⟩)) fun v s1 ⟨u, H1, I1, r1, m1, G1, h2, x, R1, rx, q1⟩ => PyProof.Rows.args_nil ?_) na) na rfl
  cases hc : clsOf x "__len__" ks h2 with
  | none =>
    rw [hc] at q1
    exact call_len_b pins s1 σ H1 [u] [v] Q I1 (.cons r1 .nil) ⟨m1, G1, h2, [x], σ, R1, .cons rx .nil, q1⟩
  | some c0 =>
    rw [hc] at q1
    obtain ⟨n, fs, rfl, ek, hl, hk⟩ := cls_of hc
    obtain ⟨rfl, hn⟩ := rx.ref_inv
    obtain rfl : v = Value.ref (m1 n) := r1
    obtain ⟨C, dx, gs, ct, hH, rf⟩ := R1.ins ek
    obtain ⟨g, hcC, hmm, F⟩ := M.ex c0 hk C ct
    obtain ⟨od, inst⟩ := inst_at I1 hH
    refine Calls.call_function_entry kind_len plain_len entry_len (args_len1 _) ?_
    unfold Builtin.«len»
    refine wpAny_bind (m := oneArg "len" _) (wpAny_pure ?_)
    refine wpAny_bind (m := callSpecial? (.ref (m1 n)) (Str.ofString "__len__")) (PySem.W.special_fn I1.kIn inst hmm.at_ (beq_iff_eq.mp hmm.fn) (wpAny_mono (run_cal1 F hr hgd tk I1 (us := [.ref (m1 n)]) (vs := [.ref (m1 n)]) (.cons rfl .nil) R1 (.cons rx .nil) (Post.lenR q1)) (fun r s' hr => ?_) fun _ _ y => y))
    obtain ⟨v2, H2, I2, rv, i, rfl, i0, i1, q2⟩ := hr
    obtain ⟨t, rfl⟩ := rv
    refine wpAny_bind (wpAny_holding (wpAny_pure ?_))
    refine wpAny_bind (wpAny_letGo ?_)
    show wpAny _ _ (if i < 0 then _ else _) _ _ _
    rw [if_neg (by omega)]
    show wpAny _ _ (if i ≥ 2 ^ 63 then _ else _) _ _ _
    rw [if_neg (by omega)]
    exact wpAny_bind (wpAny_mkInt (wpAny_pure ⟨_, rfl, .int i, H2, I2.tok _, ⟨_, rfl⟩, q2⟩))
end
end Mi

set_option Elab.async false
set_option linter.all false
set_option maxRecDepth 100000
/-! Mk9: in an instance: its own __contains__. -/
namespace Mi
open PySem PySem.Spec PyProof.Rows L2
section
variable {X : Cx} {CT : Cts} {cl : Cl} {W : WX} {k : Nat}
theorem Post.negR {neg : Bool} {Q : VK} {σ : L2.St} {m : Nat → Addr} {G : Hp} {N : Nat} {r : R PV} (p : Post X.K CT (Rel X.K) W σ m G N Q (r.bind (negR neg))) : Post X.K CT (Rel X.K) W σ m G N (fun v H' => ∃ t : Bool, v = .bl t ∧ Q (.bl (if neg then !t else t)) H') r := by
  cases r with
  | ok v h' =>
    intro m' G' H' b e1 e2 e3 e4
    rw [bind_ok] at p
    unfold Mi.negR at p
    split at p
    · rename_i t
      exact ⟨t, e4.bl_inv, p m' G' H' (.bl _) e1 e2 e3 (.bl _)⟩
    · exact p.elim
  | exc x h' => exact p
  | bad => exact p
def inOp (neg : Bool) : CmpOp := if neg then .NotIn else .In
/-- the operator itself, its operands at hand -/
theorem inn_run {ks : List String} {neg : Bool} (hu : X.A.units + 65 < cLine) (M : Mto X.prog X.w X.K X.mg X.base CT cl k "__contains__" ks) (hr : Room k X.A) (hgd : X.A.guards = some []) (tk : Takes X W) {pins : List (Addr × Obj)} {σ : L2.St} {H : Hp} {s : Shared} {Q : VK} {u v : Value} {x y : V} {m : Nat → Addr} {G : Hp} {h : PH} {px py : PV}
    (I : Inv X pins σ H s) (rx : L2.RelV x v) (ry : L2.RelV y u) (R : HR X.K CT m G H h) (r1 : Rel X.K m h.length G px x) (r2 : Rel X.K m h.length G py y)
    (q : Post X.K CT (Rel X.K) W σ m G h.length Q (match clsOf py "__contains__" ks h with
      | some c => (cl (.m c "__contains__") [py, px] h).bind fun r h3 => negR neg r h3
      | none => cmpV (if neg then .notin else .isin) px py h)) : wpAny (model X.prog X.w) X.A (compareOp (inOp neg) v u) (EP X pins σ Q) X.xe s := by
  cases hc : clsOf py "__contains__" ks h with
  | none =>
    rw [hc] at q
    have z := op_C (X := X) (CT := CT) (W := W) hu (if neg then .notin else .isin) pins s σ H x y v u Q I rx ry ⟨m, G, h, px, py, σ, R, r1, r2, q⟩
    cases neg <;> exact z
  | some c0 =>
    rw [hc] at q
    obtain ⟨n, fs, rfl, ek, hl, hk⟩ := cls_of hc
    obtain ⟨rfl, hn⟩ := r2.ref_inv
    obtain rfl : u = Value.ref (m n) := ry
    obtain ⟨C, dx, gs, ct, hH, rf⟩ := R.ins ek
    obtain ⟨g, hcC, hmm, F⟩ := M.ex c0 hk C ct
    obtain ⟨od, inst⟩ := inst_at I hH
    have run := run_cal F hr hgd tk I (us := [.ref (m n), v]) (vs := [.ref (m n), x]) (.cons rfl (.cons rx .nil)) R (.cons r2 (.cons r1 .nil)) (Post.negR q)
    have con : wpAny (model X.prog X.w) X.A (contains (.ref (m n)) v) (fun b s' => EP X pins σ Q (.bool (if neg then !b else b)) s') X.xe s := by
      unfold contains
      refine wpAny_holding (wpAny_bind (wpAny_bind (inst.type.here ((PySem.W.looks_findIn I.kIn hmm.at_).here ?_))))
      rw [if_neg (by simp)]
      refine wpAny_bind (PySem.W.unlessNone_K I.kIn inst hmm.at_ hmm.fn (wpAny_mono run (fun r s' hr => ?_) fun _ _ y => y))
      obtain ⟨v2, H2, I2, rv, t, rfl, q2⟩ := hr
      obtain rfl : r = Value.bool t := rv
      exact wpAny_truthy_bool ⟨.bl _, H2, I2, rfl, q2⟩
    cases neg with
    | false => exact wpAny_bind (wpAny_mono con (fun _ _ z => wpAny_pure z) fun _ _ z => z)
    | true => exact wpAny_bind (wpAny_mono con (fun _ _ z => wpAny_pure z) fun _ _ z => z)
variable {e1 e2 : Expr} {c1 c2 : E} {pos : Pos}
theorem I_inn {ks : List String} {neg : Bool} {op : CmpOp} (ho : op = inOp neg) (hu : X.A.units + 65 < cLine) (hcl : GroC cl) (M : Mto X.prog X.w X.K X.mg X.base CT cl k "__contains__" ks) (hr : Room k X.A) (hgd : X.A.guards = some []) (tk : Takes X W) (h1 : PE X e1 (tE X.K CT cl W c1)) (h2 : PE X e2 (tE X.K CT cl W c2)) (hm : behindInMarks op e2 = false) :
    PE X (.Compare e1 [op] [e2] pos) (tE X.K CT cl W (.inn neg ks c1 c2)) := by
  subst ho
  refine ⟨fun pins s σ H Q I ⟨m, G, h, ρ, R, sr, q⟩ => ?_⟩
  simp only [ev] at q
  refine wpAny_Compare1 (thn (h1.run pins s σ H _ I (tE_first (Q1 := fun v H1 => ∃ m1 G1 h1 x, HR X.K CT m1 G1 H1 h1 ∧ SR X.K m1 h1.length G1 ρ σ ∧ Rel X.K m1 h1.length G1 x v ∧ Post X.K CT (Rel X.K) W σ m1 G1 h1.length Q ((ev cl c2 ρ h1).bind fun y h2 => match clsOf y "__contains__" ks h2 with
      | some c => (cl (.m c "__contains__") [y, x] h2).bind fun r h3 => negR neg r h3
      | none => cmpV (if neg then .notin else .isin) x y h2)) hcl R sr q fun x v h1 m1 G1 H1 _ _ _ R1 s1 r1 q1 => ⟨m1, G1, h1, x, R1, s1, r1, q1⟩)) fun v s1 ⟨vx, H1, I1, rv1, m1, G1, h1', x, R1, sr1, r1, q1⟩ => ?_) hm
  refine thn (h2.run pins s1 σ H1 _ I1 (tE_first (Q1 := fun w H2 => ∃ m2 G2 h2 y, HR X.K CT m2 G2 H2 h2 ∧ Rel X.K m2 h2.length G2 x vx ∧ Rel X.K m2 h2.length G2 y w ∧ Post X.K CT (Rel X.K) W σ m2 G2 h2.length Q (match clsOf y "__contains__" ks h2 with
      | some c => (cl (.m c "__contains__") [y, x] h2).bind fun r h3 => negR neg r h3
      | none => cmpV (if neg then .notin else .isin) x y h2)) hcl R1 sr1 q1 fun y w h2 m2 G2 H2 ex sg le R2 _ r2 q2 => ⟨m2, G2, h2, y, R2, r1.mono ex le sg, r2, q2⟩)) fun u s2 ⟨vy, H2, I2, rv2, m2, G2, h2', y, R2, r1', r2, q2⟩ => ?_
  exact inn_run hu M hr hgd tk I2 rv1 rv2 R2 r1' r2 q2
end
/-- the own __call__ is a def -/
theorem fn_one {K : PySem.W.Frag} {ins exc : List String} {tb : List (Addr × Str)} {gh : List GF} {q : String} {a : Addr} (h : Meth K (gaS K q) "__call__" a) (f : PySem.W.fnIn K a = true) : ∀ c, c ∈ [q] → ∀ C g, (CTm ins exc K tb gh).ins c C → PySem.W.findIn K (.ref C) "__call__" = some (some (.ref g)) → PySem.W.fnIn K g = true := fun c hc C g ct e => by
  rw [List.mem_singleton] at hc
  subst hc
  obtain ⟨_, rfl⟩ := ct
  rw [h.at_] at e
  injection e with e
  injection e with e
  injection e with e
  rw [← e]
  exact f
end Mi

set_option Elab.async false
set_option linter.all false
set_option maxRecDepth 100000
/-! Mk10: s.index(sign), where the sign is there. -/
namespace Mi
open PySem PySem.Spec PyProof.Rows L2
theorem idxC_at {c : Char} : ∀ {s : List Char} {i : Nat}, idxC c s = some i → s[i]? = some c ∧ ∀ k, k < i → s[k]? ≠ some c
  | [], _, h => by simp [idxC] at h
  | d :: r, i, h => by
    rw [idxC] at h
    by_cases hd : d = c
    · rw [if_pos hd] at h
      obtain rfl : 0 = i := Option.some.inj h
      exact ⟨by simp [hd], fun k hk => absurd hk (Nat.not_lt_zero k)⟩
    · rw [if_neg hd] at h
      cases q : idxC c r with
      | none => rw [q] at h; simp at h
      | some j =>
        rw [q] at h
        obtain rfl : j + 1 = i := by simpa using h
        obtain ⟨a, b⟩ := idxC_at q
        refine ⟨by simpa using a, fun k hk => ?_⟩
        cases k with
        | zero => simpa using hd
        | succ k => simpa using b k (by omega)
theorem S2_list (s : List Char) : (S2 s).cps.toList = s.map Char.toNat := by simp [S2]
theorem S2_get (s : List Char) (i : Nat) (c : Char) : (S2 s).cps.toList[i]? = some c.toNat ↔ s[i]? = some c := by
  rw [S2_list, List.getElem?_map]
  constructor
  · intro h
    cases q : s[i]? with
    | none => rw [q] at h; simp at h
    | some d =>
      rw [q] at h
      have e : d.toNat = c.toNat := by simpa using h
      have e2 : d = c := Char.ext (UInt32.toNat_inj.mp e)
      rw [e2]
  · intro h
    rw [h]
    rfl
theorem S2_one (c : Char) : S2 [c] = ⟨#[c.toNat]⟩ := by simp [S2]
theorem occ_idx {c : Char} {s : List Char} {i : Nat} (h : idxC c s = some i) : ∃ r, Builtin.Str.occurrences (S2 s) (S2 [c]) 0 (S2 s).length 1 = i :: r := by
  obtain ⟨a, b⟩ := idxC_at h
  rw [S2_one]
  rcases StrLaws.occ_head (S2 s) ⟨#[c.toNat]⟩ 1 (Nat.le_refl 1) with ⟨_, hn⟩ | ⟨j, r, h0, hj, hn⟩
  · exact absurd ((StrLaws.subAt_one (S2 s) c.toNat i).mpr ((S2_get s i c).mpr a)) (hn i)
  · have hj' : s[j]? = some c := (S2_get s j c).mp ((StrLaws.subAt_one (S2 s) c.toNat j).mp hj)
    have e : i = j := by
      rcases Nat.lt_trichotomy i j with l | l | l
      · exact absurd ((StrLaws.subAt_one (S2 s) c.toNat i).mpr ((S2_get s i c).mpr a)) (hn i l)
      · exact l
      · exact absurd hj' (b j l)
    subst e
    exact ⟨r, h0⟩
section
variable {X : Cx} {CT : Cts} {W : WX}
theorem mt_sindex_b : MtR X "str.index" (rMv X.K CT W (mthV "sindex")) := by
  refine MtR.imp mt_sindex fun x vs H Q ⟨mm, G, h, px, pvs, σ, R, rx, rl, q⟩ => ?_
  have q : Post X.K CT (Rel X.K) W σ mm G h.length Q (sidxV px pvs h) := q
  unfold sidxV at q
  split at q
  · rename_i s c q0
    obtain rfl := rx.str_inv
    obtain ⟨v, rfl, rv⟩ := rl.one_inv
    obtain rfl := rv.str_inv
    split at q
    · rename_i i ei
      obtain ⟨r, o⟩ := occ_idx ei
      exact ⟨S2 s, S2 [c], i, r, rfl, rfl, o, Post.now q R (.int _)⟩
    · exact q.elim
  · exact q.elim
end
/-! ### x in made, as a test -/
theorem negR_bl {neg : Bool} {r : R PV} {v : PV} {h' : PH} (e : (r.bind (negR neg)) = .ok v h') : ∃ b, v = .bl b := by
  cases r with
  | ok u h1 =>
    rw [bind_ok] at e
    unfold Mi.negR at e
    split at e
    · injection e with e _
      exact ⟨_, e.symm⟩
    · exact absurd e (by simp)
  | exc x h' => exact absurd e (by simp [R.bind])
  | bad => exact absurd e (by simp [R.bind])
theorem onlyBl {K : PySem.W.Frag} {CT : Cts} {W : WX} {Q : Bool → Hp → Prop} {σ : L2.St} {m : Nat → Addr} {G : Hp} {N : Nat} {r : R PV} (o : ∀ v h', r = .ok v h' → ∃ b, v = .bl b) (q : Post K CT relB W σ m G N Q (r.bind truR)) : Post K CT (Rel K) W σ m G N (fun z H' => ∃ k, z = .bl k ∧ Q k H') r := by
  cases r with
  | ok v h' =>
    obtain ⟨b, rfl⟩ := o v h' rfl
    intro m' G' H' b' x3 g3 R3 r3
    obtain rfl := r3.bl_inv
    exact ⟨b, rfl, q m' G' H' b x3 g3 R3 rfl⟩
  | exc x h' => exact q
  | bad => exact q
section
variable {X : Cx} {CT : Cts} {cl : Cl} {W : WX} {k : Nat} {e1 e2 : Expr} {c1 c2 : E} {pos : Pos}
theorem tst_inn {neg : Bool} {ks : List String} {ρ : Mi.Env} {h : PH} : tst cl (.inn neg ks c1 c2) ρ h = (ev cl c1 ρ h).bind fun x h1 => (ev cl c2 ρ h1).bind fun y h2 => (match clsOf y "__contains__" ks h2 with
      | some c => (cl (.m c "__contains__") [y, x] h2).bind fun r h3 => negR neg r h3
      | none => cmpV (if neg then .notin else .isin) x y h2).bind fun z h3 => truR z h3 := by
  unfold tst
  simp only [ev]
  cases ev cl c1 ρ h with
  | ok x h1 =>
    simp only [bind_ok]
    cases ev cl c2 ρ h1 <;> rfl
  | _ => rfl
theorem I_tinn {ks : List String} {neg : Bool} {op : CmpOp} (ho : op = inOp neg) (hu : X.A.units + 65 < cLine) (hcl : GroC cl) (M : Mto X.prog X.w X.K X.mg X.base CT cl k "__contains__" ks) (hr : Room k X.A) (hgd : X.A.guards = some []) (tk : Takes X W) (h1 : PE X e1 (tE X.K CT cl W c1)) (h2 : PE X e2 (tE X.K CT cl W c2)) (hm : behindInMarks op e2 = false) :
    PT X (.Compare e1 [op] [e2] pos) (tT X.K CT cl W (.inn neg ks c1 c2)) := by
  subst ho
  refine ⟨fun pins s σ H Q I ⟨m, G, h, ρ, R, sr, q⟩ => ?_⟩
  rw [tst_inn] at q
  refine wpAny_isTrue_Compare1 (thn (h1.run pins s σ H _ I (tE_first (Q1 := fun v H1 => ∃ m1 G1 h1 x, HR X.K CT m1 G1 H1 h1 ∧ SR X.K m1 h1.length G1 ρ σ ∧ Rel X.K m1 h1.length G1 x v ∧ Post X.K CT relB W σ m1 G1 h1.length Q ((ev cl c2 ρ h1).bind fun y h2 => (match clsOf y "__contains__" ks h2 with
      | some c => (cl (.m c "__contains__") [y, x] h2).bind fun r h3 => negR neg r h3
      | none => cmpV (if neg then .notin else .isin) x y h2).bind fun z h3 => truR z h3)) hcl R sr q fun x v h1 m1 G1 H1 _ _ _ R1 s1 r1 q1 => ⟨m1, G1, h1, x, R1, s1, r1, q1⟩)) fun v s1 ⟨vx, H1, I1, rv1, m1, G1, h1', x, R1, sr1, r1, q1⟩ => ?_) hm
  refine thn (h2.run pins s1 σ H1 _ I1 (tE_first (Q1 := fun w H2 => ∃ m2 G2 h2 y, HR X.K CT m2 G2 H2 h2 ∧ Rel X.K m2 h2.length G2 x vx ∧ Rel X.K m2 h2.length G2 y w ∧ Post X.K CT relB W σ m2 G2 h2.length Q ((match clsOf y "__contains__" ks h2 with
      | some c => (cl (.m c "__contains__") [y, x] h2).bind fun r h3 => negR neg r h3
      | none => cmpV (if neg then .notin else .isin) x y h2).bind fun z h3 => truR z h3)) hcl R1 sr1 q1 fun y w h2 m2 G2 H2 ex sg le R2 _ r2 q2 => ⟨m2, G2, h2, y, R2, r1.mono ex le sg, r2, q2⟩)) fun u s2 ⟨vy, H2, I2, rv2, m2, G2, h2', y, R2, r1', r2, q2⟩ => ?_
  refine thn (inn_run hu M hr hgd tk I2 rv1 rv2 R2 r1' r2 (onlyBl (fun v h' e => ?_) q2)) fun c s3 ⟨z, H3, I3, r3, k, e, q3⟩ => ?_
  · split at e
    · exact negR_bl e
    · rcases cmpV_bl (o := if neg then .notin else .isin) (x := x) (y := y) (h := h2') with ⟨b, eb⟩ | eb
      · rw [eb] at e
        injection e with e _
        exact ⟨b, e.symm⟩
      · rw [eb] at e
        exact absurd e (by simp)
  · subst e
    cases r3
    exact wpAny_truthy_bool ⟨H3, I3, q3⟩
end
end Mi

set_option Elab.async false
set_option linter.all false
set_option maxRecDepth 100000
namespace Mk04
open PySem PySem.Spec PyProof.Rows L2 Mi
/-! ### the defs, compact -/
def c_is_number : Fn := ⟨3, 0, [.ret (.and (.isi (.v 0) ["int", "bool"]) (.and (.nt (.isi (.v 0) ["bool"])) (.chain .le .le (.v 1) (.v 0) (.v 2))))]⟩
def c_is_alphabet : Fn := ⟨1, 1, [.ite (.or (.nt (.isi (.v 0) ["str"])) (.or (.cmp .eq (.v 0) (.k (.str []))) (.nt (.blt "all" [.lc (.cmp .isin (.v 1) (.k (.str ['a', 'b', 'c', 'd']))) (.nm 1) .val [.v 0] [] [1]])))) [.ret (.k (.bl false))] [],
  .ret (.cmp .eq (.blt "list" [.v 0]) (.blt "sorted set" [.v 0]))]⟩
def c_need_letters : Fn := ⟨1, 0, [.ite (.nt (.call "is_alphabet" [.v 0])) [.raise "BadLetters" [.k (.str ['n', 'o', 't', ' ', 'a', 'n', ' ', 'a', 'l', 'p', 'h', 'a', 'b', 'e', 't'])]] []]⟩
def c_is_text : Fn := ⟨2, 1, [.ex (.call "need_letters" [.v 0]),
  .ret (.and (.isi (.v 1) ["str"]) (.blt "all" [.lc (.cmp .isin (.v 2) (.v 0)) (.nm 2) .val [.v 1] [] [2]]))]⟩
def c_need_text : Fn := ⟨2, 0, [.ite (.nt (.call "is_text" [.v 0, .v 1])) [.raise "BadText" [.k (.str ['n', 'o', 't', ' ', 'a', ' ', 't', 'e', 'x', 't', ' ', 'o', 'v', 'e', 'r', ' ', 't', 'h', 'e', ' ', 'a', 'l', 'p', 'h', 'a', 'b', 'e', 't'])]] []]⟩
def c_is_row : Fn := ⟨3, 1, [.ite (.or (.nt (.isi (.v 1) ["list", "tuple"])) (.cmp .ne (.blt "len" [.v 1]) (.blt "len" [.v 0]))) [.ret (.k (.bl false))] [],
  .ret (.blt "all" [.lc (.call "is_number" [.v 3, .k (.int 0), .bop .sub (.v 2) (.k (.int 1))]) (.nm 3) .val [.v 1] [] [3]])]⟩
def c_are_states : Fn := ⟨2, 1, [.ite (.or (.nt (.isi (.v 0) ["list", "tuple"])) (.nt (.blt "all" [.lc (.call "is_number" [.v 2, .k (.int 0), .bop .sub (.v 1) (.k (.int 1))]) (.nm 2) .val [.v 0] [] [2]]))) [.ret (.k (.bl false))] [],
  .ret (.cmp .eq (.blt "len set" [.v 0]) (.blt "len" [.v 0]))]⟩
def c_Machine____init__ : Fn := ⟨4, 2, [.ex (.call "need_letters" [.v 1]),
  .ite (.or (.nt (.isi (.v 2) ["list", "tuple"])) (.nt (.chain .le .le (.k (.int 1)) (.blt "len" [.v 2]) (.k (.int 40))))) [.raiseI "BadMachine" "index" (.k (.int 0))] [],
  .for_ (.tup [.nm 4, .nm 5]) .enum [.v 2] [.ite (.nt (.call "is_row" [.v 1, .v 5, .blt "len" [.v 2]])) [.raiseI "BadMachine" "index" (.v 4)] []],
  .ite (.nt (.call "are_states" [.v 3, .blt "len" [.v 2]])) [.raiseI "BadMachine" "index" (.blt "len" [.v 2])] [],
  .setf (.v 0) "own_letters" (.v 1),
  .setf (.v 0) "own_rows" (.blt "tuple" [.lc (.blt "tuple" [.v 5]) (.nm 5) .val [.v 2] [] [5]]),
  .setf (.v 0) "own_accepting" (.blt "tuple" [.blt "sorted" [.v 3]])]⟩
def c_Machine____len__ : Fn := ⟨1, 0, [.ret (.blt "len" [.fld (.v 0) "own_rows"])]⟩
def c_Machine__end : Fn := ⟨2, 0, [.ex (.call "need_text" [.fld (.v 0) "own_letters", .v 1]),
  .ret (.call "state_behind" [.fld (.v 0) "own_letters", .fld (.v 0) "own_rows", .k (.int 0), .v 1])]⟩
def c_Machine____contains__ : Fn := ⟨2, 0, [.ite (.nt (.call "is_text" [.fld (.v 0) "own_letters", .v 1])) [.ret (.k (.bl false))] [],
  .ret (.cmp .isin (.call "state_behind" [.fld (.v 0) "own_letters", .fld (.v 0) "own_rows", .k (.int 0), .v 1]) (.fld (.v 0) "own_accepting"))]⟩
def c_Machine____call__ : Fn := ⟨3, 0, [.ite (.nt (.call "is_number" [.v 1, .k (.int 0), .bop .sub (.blt "len" [.fld (.v 0) "own_rows"]) (.k (.int 1))])) [.raise "BadNumber" [.k (.str ['n', 'o', 't', ' ', 'a', ' ', 's', 't', 'a', 't', 'e'])]] [],
  .ex (.call "need_text" [.fld (.v 0) "own_letters", .v 2]),
  .ret (.call "state_behind" [.fld (.v 0) "own_letters", .fld (.v 0) "own_rows", .v 1, .v 2])]⟩
def c_place_of : Fn := ⟨2, 2, [.ret (.idx (.lc (.v 2) (.tup [.nm 2, .nm 3]) .enums [.v 0] [.cmp .eq (.v 3) (.v 1)] [2, 3]) (.k (.int 0)))]⟩
def c_state_behind : Fn := ⟨4, 1, [.for_ (.nm 4) .val [.v 3] [.asg (.nm 2) (.idx (.idx (.v 1) (.v 2)) (.call "place_of" [.v 0, .v 4]))],
  .ret (.v 2)]⟩
def c__law_begin : Fn := ⟨2, 0, [.ret (.lst [.blt "max" [.k (.int 0), .bop .sub (.v 0) (.bop .pow (.k (.int 10)) (.k (.int 18)))], .bop .add (.v 0) (.bop .mul (.k (.int 977)) (.v 1)), .k (.int 0)])]⟩
def c__law_draw : Fn := ⟨2, 1, [.ite (.cmp .gt (.idx (.v 0) (.k (.int 0))) (.k (.int 0))) [.asg (.nm 2) (.bop .mod (.blt "int" [.idx (.v 0) (.k (.int 0))]) (.v 1)),
  .seti (.v 0) (.k (.int 0)) (.bop .fdiv (.idx (.v 0) (.k (.int 0))) (.v 1)),
  .ret (.v 2)] [],
  .seti (.v 0) (.k (.int 2)) (.bop .add (.idx (.v 0) (.k (.int 2))) (.k (.int 1))),
  .asg (.nm 2) (.bop .add (.bop .mod (.blt "int" [.idx (.v 0) (.k (.int 1))]) (.k (.int 2147483629))) (.bop .mul (.k (.int 104729)) (.idx (.v 0) (.k (.int 2))))),
  .asg (.nm 2) (.bop .mul (.v 2) (.bop .add (.bop .add (.bop .mod (.blt "int" [.idx (.v 0) (.k (.int 1))]) (.k (.int 2147483587))) (.bop .mul (.bop .mul (.k (.int 7919)) (.idx (.v 0) (.k (.int 2)))) (.idx (.v 0) (.k (.int 2))))) (.k (.int 11)))),
  .ret (.bop .mod (.blt "int" [.bop .fdiv (.bop .mod (.blt "int" [.bop .pow (.v 2) (.k (.int 3))]) (.k (.int 2147483647))) (.k (.int 11))]) (.v 1))]⟩
def c__law_pick : Fn := ⟨2, 0, [.ret (.idx (.v 1) (.call "_law_draw" [.v 0, .blt "len" [.v 1]]))]⟩
def c__law_alphabet : Fn := ⟨1, 0, [.ret (.call "_law_pick" [.v 0, .lst [.k (.str ['a']), .k (.str ['a', 'b']), .k (.str ['a', 'b', 'c']), .k (.str ['b', 'd']), .k (.str ['a', 'b', 'c', 'd']), .k (.str ['c']), .k (.str ['a', 'd']), .k (.str ['b', 'c', 'd'])]])]⟩
def c__law_word : Fn := ⟨3, 1, [.ret (.mth "join" (.k (.str [])) [.lc (.call "_law_pick" [.v 0, .v 1]) (.nm 3) .rng [.call "_law_draw" [.v 0, .bop .add (.v 2) (.k (.int 1))]] [] [3]])]⟩
def c__law_table : Fn := ⟨3, 5, [.asg (.nm 3) (.bop .add (.k (.int 1)) (.call "_law_draw" [.v 0, .v 2])),
  .asg (.nm 4) (.lc (.lc (.call "_law_draw" [.v 0, .v 3]) (.nm 6) .val [.v 1] [] [6]) (.nm 5) .rng [.v 3] [] [5]),
  .ret (.tup [.v 4, .lc (.v 7) (.nm 7) .rng [.v 3] [.cmp .eq (.call "_law_draw" [.v 0, .k (.int 2)]) (.k (.int 0))] [7]])]⟩
def c__law_run : Fn := ⟨3, 2, [.asg (.nm 3) (.k (.int 0)),
  .for_ (.nm 4) .val [.v 2] [.asg (.nm 3) (.idx (.idx (.v 1) (.v 3)) (.mth "sindex" (.v 0) [.v 4]))],
  .ret (.v 3)]⟩
def c__law_from : Fn := ⟨4, 1, [.for_ (.nm 4) .val [.v 3] [.asg (.nm 2) (.idx (.idx (.v 1) (.v 2)) (.mth "sindex" (.v 0) [.v 4]))],
  .ret (.v 2)]⟩
def c__law_told : Fn := ⟨1, 2, [.asg (.nm 1) (.k .non),
  .tryA [.ex (.wk (.v 0))] ["AskError", "BadLetters", "BadText", "BadMachine", "TooMany", "BadNumber"] 2 [.asg (.nm 1) (.v 2)],
  .ret (.ite (.isi (.v 1) ["BadText"]) (.k (.str ['t', 'e', 'x', 't'])) (.ite (.isi (.v 1) ["BadNumber"]) (.k (.str ['n', 'u', 'm', 'b', 'e', 'r'])) (.k (.str ['n', 'o', 'n', 'e']))))]⟩
def c__law_refused : Fn := ⟨3, 2, [.asg (.nm 3) (.call "_law_pick" [.v 0, .lst [.k .non, .k (.int 5), .lst [.k (.str ['a'])], .tup [.k (.str ['a'])], .bop .add (.v 2) (.k (.str ['e'])), .k (.str ['A']), .k (.str [' ']), .k (.str ['a', '\n']), .dct [] [], .k (.bl true), .bop .add (.v 2) (.k (.str ['\n'])), .v 1]]),
  .asg (.nm 4) (.call "_law_pick" [.v 0, .lst [.neg (.k (.int 1)), .ln ["Machine"] (.v 1), .k (.bl true), .k (.bl false), .k .non, .k (.str ['0']), .lst [.k (.int 0)], .bop .pow (.k (.int 10)) (.k (.int 30))]]),
  .ite (.or (.inn false ["Machine"] (.v 3) (.v 1)) (.cmp .ne (.lam "_law_told" (.mto "end" ["Machine"] (.v 1) [.v 3])) (.k (.str ['t', 'e', 'x', 't'])))) [.ret (.k (.bl false))] [],
  .ite (.cmp .ne (.lam "_law_told" (.mto "__call__" ["Machine"] (.v 1) [.k (.int 0), .v 3])) (.k (.str ['t', 'e', 'x', 't']))) [.ret (.k (.bl false))] [],
  .ite (.cmp .ne (.lam "_law_told" (.mto "__call__" ["Machine"] (.v 1) [.v 4, .k (.str [])])) (.k (.str ['n', 'u', 'm', 'b', 'e', 'r']))) [.ret (.k (.bl false))] [],
  .ret (.cmp .eq (.lam "_law_told" (.mto "__call__" ["Machine"] (.v 1) [.v 4, .v 3])) (.k (.str ['n', 'u', 'm', 'b', 'e', 'r'])))]⟩
def c_law : Fn := ⟨1, 12, [.for_ (.tup [.nm 1, .nm 2]) .enum [.slc (.or (.v 0) (.lst [.k (.int 5)])) none (some (.k (.int 12)))] [.asg (.nm 3) (.call "_law_begin" [.v 2, .v 1]),
  .asg (.nm 4) (.call "_law_alphabet" [.v 3]),
  .asg (.tup [.nm 8, .nm 9]) (.call "_law_table" [.v 3, .v 4, .k (.int 8)]),
  .asg (.nm 5) (.new "Machine" [.v 4, .v 8, .v 9]),
  .for_ (.nm 6) .rng [.k (.int 16)] [.asg (.nm 7) (.call "_law_word" [.v 3, .v 4, .k (.int 12)]),
  .asg (.nm 10) (.call "_law_run" [.v 4, .v 8, .v 7]),
  .ite (.or (.cmp .ne (.mto "end" ["Machine"] (.v 5) [.v 7]) (.v 10)) (.cmp .ne (.inn false ["Machine"] (.v 7) (.v 5)) (.cmp .isin (.v 10) (.v 9)))) [.ret (.k (.bl false))] [],
  .asg (.nm 11) (.call "_law_draw" [.v 3, .blt "len" [.v 8]]),
  .asg (.nm 12) (.call "_law_from" [.v 4, .v 8, .v 11, .v 7]),
  .ite (.cmp .ne (.mto "__call__" ["Machine"] (.v 5) [.v 11, .v 7]) (.v 12)) [.ret (.k (.bl false))] []],
  .ite (.nt (.call "_law_refused" [.v 3, .v 5, .v 4])) [.ret (.k (.bl false))] [],
  .asg (.nm 7) (.bop .mul (.call "_law_word" [.v 3, .v 4, .k (.int 40)]) (.k (.int 50))),
  .ite (.cmp .ne (.mto "end" ["Machine"] (.v 5) [.slc (.v 7) none (some (.k (.int 2000)))]) (.call "_law_run" [.v 4, .v 8, .slc (.v 7) none (some (.k (.int 2000)))])) [.ret (.k (.bl false))] []],
  .ret (.k (.bl true))]⟩
def tab : FN → Option Fn
  | .f "is_number" => some c_is_number
  | .f "is_alphabet" => some c_is_alphabet
  | .f "need_letters" => some c_need_letters
  | .f "is_text" => some c_is_text
  | .f "need_text" => some c_need_text
  | .f "is_row" => some c_is_row
  | .f "are_states" => some c_are_states
  | .m "Machine" "__init__" => some c_Machine____init__
  | .m "Machine" "__len__" => some c_Machine____len__
  | .m "Machine" "end" => some c_Machine__end
  | .m "Machine" "__contains__" => some c_Machine____contains__
  | .m "Machine" "__call__" => some c_Machine____call__
  | .f "place_of" => some c_place_of
  | .f "state_behind" => some c_state_behind
  | .f "_law_begin" => some c__law_begin
  | .f "_law_draw" => some c__law_draw
  | .f "_law_pick" => some c__law_pick
  | .f "_law_alphabet" => some c__law_alphabet
  | .f "_law_word" => some c__law_word
  | .f "_law_table" => some c__law_table
  | .f "_law_run" => some c__law_run
  | .f "_law_from" => some c__law_from
  | .f "_law_told" => some c__law_told
  | .f "_law_refused" => some c__law_refused
  | .f "law" => some c_law
  | _ => none

/-! ### the text by places -/
def top (i : Nat) : Stmt := PySem.Challenge.pw_smallasks_k04_machines_read_texts.main.body.getD i (.Pass ⟨0, 0, 0, 0⟩)
abbrev st_is_number : Stmt := top 10
abbrev st_is_alphabet : Stmt := top 11
abbrev st_need_letters : Stmt := top 12
abbrev st_is_text : Stmt := top 13
abbrev st_need_text : Stmt := top 14
abbrev st_is_row : Stmt := top 17
abbrev st_are_states : Stmt := top 18
abbrev st_Machine____init__ : Stmt := inCls (top 19) 0
abbrev st_Machine____len__ : Stmt := inCls (top 19) 4
abbrev st_Machine__end : Stmt := inCls (top 19) 7
abbrev st_Machine____contains__ : Stmt := inCls (top 19) 8
abbrev st_Machine____call__ : Stmt := inCls (top 19) 9
abbrev st_place_of : Stmt := top 20
abbrev st_state_behind : Stmt := top 21
abbrev st__law_begin : Stmt := top 27
abbrev st__law_draw : Stmt := top 28
abbrev st__law_pick : Stmt := top 29
abbrev st__law_alphabet : Stmt := top 30
abbrev st__law_word : Stmt := top 31
abbrev st__law_table : Stmt := top 32
abbrev st__law_run : Stmt := top 33
abbrev st__law_from : Stmt := top 34
abbrev st__law_told : Stmt := top 35
abbrev st__law_refused : Stmt := top 36
abbrev st_law : Stmt := top 37
abbrev defN : List String := ["is_number", "is_alphabet", "need_letters", "is_text", "need_text", "is_row", "are_states", "place_of", "state_behind", "_law_begin", "_law_draw", "_law_pick", "_law_alphabet", "_law_word", "_law_table", "_law_run", "_law_from", "_law_refused", "law"]
abbrev excN : List String := ["BadLetters", "BadMachine", "BadNumber", "BadText"]
abbrev insN : List String := ["Machine"]
/-- the classes -/
abbrev mkN : List String := ["_law_refused"]
abbrev CT (K : PySem.W.Frag) (gh : List GF) : Cts := CTm insN excN K [(pOf K (gaS K "_law_refused"), (SO "_law_refused" ++ SO ".<locals>.") ++ SO "<lambda>")] gh
structure Tx (w : World) (K : PySem.W.Frag) (mg : Str → Option Value) (gh : List GF) : Prop where
  g_is_number : mg "is_number" = some (.ref (He.ga K (SO "is_number")))
  k_is_number : PySem.W.keepIn K (.ref (He.ga K (SO "is_number"))) = true
  g_is_alphabet : mg "is_alphabet" = some (.ref (He.ga K (SO "is_alphabet")))
  k_is_alphabet : PySem.W.keepIn K (.ref (He.ga K (SO "is_alphabet"))) = true
  g_need_letters : mg "need_letters" = some (.ref (He.ga K (SO "need_letters")))
  k_need_letters : PySem.W.keepIn K (.ref (He.ga K (SO "need_letters"))) = true
  g_is_text : mg "is_text" = some (.ref (He.ga K (SO "is_text")))
  k_is_text : PySem.W.keepIn K (.ref (He.ga K (SO "is_text"))) = true
  g_need_text : mg "need_text" = some (.ref (He.ga K (SO "need_text")))
  k_need_text : PySem.W.keepIn K (.ref (He.ga K (SO "need_text"))) = true
  g_is_row : mg "is_row" = some (.ref (He.ga K (SO "is_row")))
  k_is_row : PySem.W.keepIn K (.ref (He.ga K (SO "is_row"))) = true
  g_are_states : mg "are_states" = some (.ref (He.ga K (SO "are_states")))
  k_are_states : PySem.W.keepIn K (.ref (He.ga K (SO "are_states"))) = true
  mt_Machine____init__ : Meth K (gaS K "Machine") (Str.ofString "__init__") (He.ma K (gaS K "Machine") (SO "__init__"))
  mt_Machine____len__ : Meth K (gaS K "Machine") (Str.ofString "__len__") (He.ma K (gaS K "Machine") (SO "__len__"))
  mt_Machine__end : Meth K (gaS K "Machine") (Str.ofString "end") (He.ma K (gaS K "Machine") (SO "end"))
  mt_Machine____contains__ : Meth K (gaS K "Machine") (Str.ofString "__contains__") (He.ma K (gaS K "Machine") (SO "__contains__"))
  mt_Machine____call__ : Meth K (gaS K "Machine") (Str.ofString "__call__") (He.ma K (gaS K "Machine") (SO "__call__"))
  g_place_of : mg "place_of" = some (.ref (He.ga K (SO "place_of")))
  k_place_of : PySem.W.keepIn K (.ref (He.ga K (SO "place_of"))) = true
  g_state_behind : mg "state_behind" = some (.ref (He.ga K (SO "state_behind")))
  k_state_behind : PySem.W.keepIn K (.ref (He.ga K (SO "state_behind"))) = true
  g__law_begin : mg "_law_begin" = some (.ref (He.ga K (SO "_law_begin")))
  k__law_begin : PySem.W.keepIn K (.ref (He.ga K (SO "_law_begin"))) = true
  g__law_draw : mg "_law_draw" = some (.ref (He.ga K (SO "_law_draw")))
  k__law_draw : PySem.W.keepIn K (.ref (He.ga K (SO "_law_draw"))) = true
  g__law_pick : mg "_law_pick" = some (.ref (He.ga K (SO "_law_pick")))
  k__law_pick : PySem.W.keepIn K (.ref (He.ga K (SO "_law_pick"))) = true
  g__law_alphabet : mg "_law_alphabet" = some (.ref (He.ga K (SO "_law_alphabet")))
  k__law_alphabet : PySem.W.keepIn K (.ref (He.ga K (SO "_law_alphabet"))) = true
  g__law_word : mg "_law_word" = some (.ref (He.ga K (SO "_law_word")))
  k__law_word : PySem.W.keepIn K (.ref (He.ga K (SO "_law_word"))) = true
  g__law_table : mg "_law_table" = some (.ref (He.ga K (SO "_law_table")))
  k__law_table : PySem.W.keepIn K (.ref (He.ga K (SO "_law_table"))) = true
  g__law_run : mg "_law_run" = some (.ref (He.ga K (SO "_law_run")))
  k__law_run : PySem.W.keepIn K (.ref (He.ga K (SO "_law_run"))) = true
  g__law_from : mg "_law_from" = some (.ref (He.ga K (SO "_law_from")))
  k__law_from : PySem.W.keepIn K (.ref (He.ga K (SO "_law_from"))) = true
  g__law_told : mg "_law_told" = some (.ref (He.ga K (SO "_law_told")))
  k__law_told : PySem.W.keepIn K (.ref (He.ga K (SO "_law_told"))) = true
  g__law_refused : mg "_law_refused" = some (.ref (He.ga K (SO "_law_refused")))
  k__law_refused : PySem.W.keepIn K (.ref (He.ga K (SO "_law_refused"))) = true
  g_law : mg "law" = some (.ref (He.ga K (SO "law")))
  k_law : PySem.W.keepIn K (.ref (He.ga K (SO "law"))) = true
  n_all : mg "all" = none
  n_bool : mg "bool" = none
  n_enumerate : mg "enumerate" = none
  n_int : mg "int" = none
  n_isinstance : mg "isinstance" = none
  n_len : mg "len" = none
  n_list : mg "list" = none
  n_max : mg "max" = none
  n_range : mg "range" = none
  n_set : mg "set" = none
  n_sorted : mg "sorted" = none
  n_str : mg "str" = none
  n_tuple : mg "tuple" = none
  i_ALL_LETTERS : ∃ t, mg "ALL_LETTERS" = some (.str "abcd" t)
  i_MOST_STATES : ∃ t, mg "MOST_STATES" = some (.int 40 t)
  x_AskError : mg "AskError" = some (.ref (gaS K "AskError"))
  x_BadLetters : mg "BadLetters" = some (.ref (gaS K "BadLetters"))
  x_BadMachine : mg "BadMachine" = some (.ref (gaS K "BadMachine"))
  x_BadNumber : mg "BadNumber" = some (.ref (gaS K "BadNumber"))
  x_BadText : mg "BadText" = some (.ref (gaS K "BadText"))
  x_Machine : mg "Machine" = some (.ref (gaS K "Machine"))
  low_BadMachine : LowF K "BadMachine" "index"
  bas_AskError : BaseI K (gaS K "AskError") (.type "type")
  c_BadLetters : (CT K gh).exc "BadLetters" (gaS K "BadLetters")
  e_BadLetters : PySem.W.excIn K (gaS K "BadLetters") He.veBase "ValueError.__new__" = true ∧ PySem.W.keepIn K (.ref (gaS K "BadLetters")) = true ∧ PySem.W.subIn K (.ref (gaS K "BadLetters")) (.type "BaseException") = some true ∧ PySem.W.typeIn K (.ref (gaS K "BadLetters")) = some (.type "type")
  c_BadMachine : (CT K gh).exc "BadMachine" (gaS K "BadMachine")
  c_BadNumber : (CT K gh).exc "BadNumber" (gaS K "BadNumber")
  e_BadNumber : PySem.W.excIn K (gaS K "BadNumber") He.veBase "ValueError.__new__" = true ∧ PySem.W.keepIn K (.ref (gaS K "BadNumber")) = true ∧ PySem.W.subIn K (.ref (gaS K "BadNumber")) (.type "BaseException") = some true ∧ PySem.W.typeIn K (.ref (gaS K "BadNumber")) = some (.type "type")
  c_BadText : (CT K gh).exc "BadText" (gaS K "BadText")
  e_BadText : PySem.W.excIn K (gaS K "BadText") He.veBase "ValueError.__new__" = true ∧ PySem.W.keepIn K (.ref (gaS K "BadText")) = true ∧ PySem.W.subIn K (.ref (gaS K "BadText")) (.type "BaseException") = some true ∧ PySem.W.typeIn K (.ref (gaS K "BadText")) = some (.type "type")
  m_AskError : ∀ c C, (CT K gh).exc c C → PySem.W.exmOne K (.ref C) (.ref (gaS K "AskError")) = some (decide (c ∈ ["AskError", "BadLetters", "BadText", "BadMachine", "TooMany", "BadNumber"]))
  ty_BadNumber : TyT K (CT K gh) (.ref (gaS K "BadNumber")) ["BadNumber"]
  ty_BadText : TyT K (CT K gh) (.ref (gaS K "BadText")) ["BadText"]
  ty_bool : TyT K (CT K gh) (.type "bool") ["bool"]
  ty_int : TyT K (CT K gh) (.type "int") ["int", "bool"]
  ty_list : TyT K (CT K gh) (.type "list") ["list"]
  ty_str : TyT K (CT K gh) (.type "str") ["str"]
  ty_tuple : TyT K (CT K gh) (.type "tuple") ["tuple"]
  hE : ∀ c C, (CT K gh).exc c C → ExcC K C
  sys : SysD K
  cls_Machine : Cls K (gaS K "Machine")
  ic_Machine : (CT K gh).ins "Machine" (gaS K "Machine")
  mk_Machine : Mk K (gaS K "Machine") (He.ma K (gaS K "Machine") (SO "__init__"))
  fnc_Machine : PySem.W.fnIn K (He.ma K (gaS K "Machine") (SO "__call__")) = true
  na_own_accepting : ∀ c C, (CT K gh).ins c C → Cls K C ∧ NoAttr K C "own_accepting"
  na_own_letters : ∀ c C, (CT K gh).ins c C → Cls K C ∧ NoAttr K C "own_letters"
  na_own_rows : ∀ c C, (CT K gh).ins c C → Cls K C ∧ NoAttr K C "own_rows"
  xf_own_accepting : ∀ c C, (CT K gh).exc c C → XfC K C ∧ PySem.W.findIn K (.ref C) "own_accepting" = some none
  xf_own_letters : ∀ c C, (CT K gh).exc c C → XfC K C ∧ PySem.W.findIn K (.ref C) "own_letters" = some none
  xf_own_rows : ∀ c C, (CT K gh).exc c C → XfC K C ∧ PySem.W.findIn K (.ref C) "own_rows" = some none
  hI : ∀ c C, (CT K gh).ins c C → InsT K C
  mkb__law_refused : mkB K (gaS K "_law_refused") = true
  tnd : (mkN.map fun m => pOf K (gaS K m)).Nodup
section
variable {P : Program} {w : World} {K : PySem.W.Frag} {mg : Str → Option Value} {base : Heap} {n : Nat} {f : Addr} {fd : FuncData}
structure Cals (P : Program) (w : World) (K : PySem.W.Frag) (mg : Str → Option Value) (base : Heap) (n : Nat) (gh : List GF) : Prop where
  c : ∀ g : String, g ∈ defN → Mi.Cal P w K mg base (CT K gh) (callN tab n) (4 * n + 2) (.f g) (gaS K g)
  m_Machine____init__ : Mi.Cal P w K mg base (CT K gh) (callN tab n) (4 * n + 2) (.m "Machine" "__init__") (He.ma K (gaS K "Machine") (SO "__init__"))
  m_Machine____len__ : Mi.Cal P w K mg base (CT K gh) (callN tab n) (4 * n + 2) (.m "Machine" "__len__") (He.ma K (gaS K "Machine") (SO "__len__"))
  m_Machine__end : Mi.Cal P w K mg base (CT K gh) (callN tab n) (4 * n + 2) (.m "Machine" "end") (He.ma K (gaS K "Machine") (SO "end"))
  m_Machine____contains__ : Mi.Cal P w K mg base (CT K gh) (callN tab n) (4 * n + 2) (.m "Machine" "__contains__") (He.ma K (gaS K "Machine") (SO "__contains__"))
  m_Machine____call__ : Mi.Cal P w K mg base (CT K gh) (callN tab n) (4 * n + 2) (.m "Machine" "__call__") (He.ma K (gaS K "Machine") (SO "__call__"))
  l_BadMachine : LowI P w K mg base "BadMachine" (Str.ofString "index") (gaS K "BadMachine")
  t__law_told : ∀ y, Mi.LCal P w K mg base ((CT K gh).push y) (callN tab n) (4 * n + 5) "_law_told" (SO "_law_told") st__law_told (gaS K "_law_told") ["_law_work", "_law_caught", "e"] "_law_work"
theorem sc_is_number : FnScope ["value", "low", "high"] ["value", "low", "high"] (defScope st_is_number) := ⟨rfl, rfl, rfl, by decide +kernel, rfl, by decide +kernel, by decide +kernel⟩
theorem f_is_number {gh : List GF} (TA : ∀ gh, Tx w K mg gh) (CA : ∀ gh, Cals P w K mg base n gh) (TB : ∀ m : String, m ∈ mkN → LamX.TabB base mg (cOf K (gaS K m)) (pOf K (gaS K m))) (F : Fun K "is_number" "is_number" st_is_number f fd) : FnG P w K mg base (4 * n + 2 + 1 + 1 + 1 + 1) f fd ["value", "low", "high"] (spB K (CT K gh) (callN tab n) c_is_number) :=
  fnG_run F sc_is_number rfl rfl (callN_gro tab n) fun cdv A out s H E W hrL hg tk hp =>
  have hcl := callN_gro tab n; have hr0 := hrL.mono (Nat.le_trans (Nat.le_succ _) (Nat.le_succ _)); have hr := hr0.mono (Nat.le_succ _); have hu := u65 hr; have hu1 := u1 hr; have T := TA gh; have CK := CA gh; have hI := T.hI; have ND := sc_is_number.nd; have C := CK.c
  (S_cons hcl (S_ret hcl (I_and hcl (I_isi hcl hI T.hE rfl T.n_isinstance rfl (I_var 0 rfl (vis_of rfl) rfl rfl) (I_ty (T := "int") rfl T.n_int rfl (by decide) rfl) (.ty _) T.ty_int rfl rfl rfl) (I_and hcl (I_nt hcl (I_isi hcl hI T.hE rfl T.n_isinstance rfl (I_var 0 rfl (vis_of rfl) rfl rfl) (I_ty (T := "bool") rfl T.n_bool rfl (by decide) rfl) (.ty _) T.ty_bool rfl rfl rfl)) (I_one (I_chain (o := .le) (o' := .le) rfl rfl hu hcl (I_var 1 rfl (vis_of rfl) rfl rfl) (I_var 0 rfl (vis_of rfl) rfl rfl) (I_var 2 rfl (vis_of rfl) rfl rfl) (by with_unfolding_all rfl))))))
  S_nil)
theorem sc_is_alphabet : FnScope ["value", "letter"] ["value"] (defScope st_is_alphabet) := ⟨rfl, rfl, rfl, by decide +kernel, rfl, by decide +kernel, by decide +kernel⟩
theorem f_is_alphabet {gh : List GF} (TA : ∀ gh, Tx w K mg gh) (CA : ∀ gh, Cals P w K mg base n gh) (TB : ∀ m : String, m ∈ mkN → LamX.TabB base mg (cOf K (gaS K m)) (pOf K (gaS K m))) (F : Fun K "is_alphabet" "is_alphabet" st_is_alphabet f fd) : FnG P w K mg base (4 * n + 2 + 1 + 1 + 1 + 1) f fd ["value"] (spB K (CT K gh) (callN tab n) c_is_alphabet) :=
  fnG_run F sc_is_alphabet rfl rfl (callN_gro tab n) fun cdv A out s H E W hrL hg tk hp =>
  have hcl := callN_gro tab n; have hr0 := hrL.mono (Nat.le_trans (Nat.le_succ _) (Nat.le_succ _)); have hr := hr0.mono (Nat.le_succ _); have hu := u65 hr; have hu1 := u1 hr; have T := TA gh; have CK := CA gh; have hI := T.hI; have ND := sc_is_alphabet.nd; have C := CK.c
  (S_cons hcl (S_if hcl (I_tw (I_wor hcl (I_tnot hcl (I_tst hcl (I_isi hcl hI T.hE rfl T.n_isinstance rfl (I_var 0 rfl (vis_of rfl) rfl rfl) (I_ty (T := "str") rfl T.n_str rfl (by decide) rfl) (.ty _) T.ty_str rfl rfl rfl) fun _ => rfl)) (I_wor hcl (I_tcmp (o := .eq) rfl hu hcl (I_var 0 rfl (vis_of rfl) rfl rfl) (I_str (by decide +kernel)) rfl) (I_wor1 (I_tnot hcl (I_tst hcl (I_bltB hcl (call_all_b rfl) rfl T.n_all rfl (I_args hcl (I_lc (own := [(SO "letter", 1)]) rfl hcl rfl ND (P_val hcl (I_var 0 rfl (vis_of rfl) rfl rfl)) (blkOk_by rfl) (fun _ _ _ _ _ => (G_nm ND rfl (loc_of rfl) (fn_of rfl) (by decide))) (fun _ _ _ _ _ => T_nil) (fun _ _ _ _ _ => (I_cmp (o := .isin) rfl hu hcl (I_var 1 rfl (vis_of rfl) rfl rfl) (I_gstrE (by decide +kernel) rfl T.i_ALL_LETTERS rfl) rfl)) (fun _ => rfl)) I_args0 rfl) (by decide) rfl rfl rfl) fun _ => rfl)))))) (S_cons hcl (S_ret hcl I_bl)
  S_nil) S_nil)
  (S_cons hcl (S_ret hcl (I_cmp (o := .eq) rfl hu hcl (I_bltT hcl (call_list_b rfl) rfl T.n_list rfl (I_args hcl (I_var 0 rfl (vis_of rfl) rfl rfl) I_args0 rfl) (by decide) rfl rfl rfl) (I_ssetX hcl rfl rfl T.n_sorted rfl T.n_set (I_var 0 rfl (vis_of rfl) rfl rfl) rfl rfl rfl rfl rfl rfl) rfl))
  S_nil))
theorem sc_need_letters : FnScope ["value"] ["value"] (defScope st_need_letters) := ⟨rfl, rfl, rfl, by decide +kernel, rfl, by decide +kernel, by decide +kernel⟩
theorem f_need_letters {gh : List GF} (TA : ∀ gh, Tx w K mg gh) (CA : ∀ gh, Cals P w K mg base n gh) (TB : ∀ m : String, m ∈ mkN → LamX.TabB base mg (cOf K (gaS K m)) (pOf K (gaS K m))) (F : Fun K "need_letters" "need_letters" st_need_letters f fd) : FnG P w K mg base (4 * n + 2 + 1 + 1 + 1 + 1) f fd ["value"] (spB K (CT K gh) (callN tab n) c_need_letters) :=
  fnG_run F sc_need_letters rfl rfl (callN_gro tab n) fun cdv A out s H E W hrL hg tk hp =>
  have hcl := callN_gro tab n; have hr0 := hrL.mono (Nat.le_trans (Nat.le_succ _) (Nat.le_succ _)); have hr := hr0.mono (Nat.le_succ _); have hu := u65 hr; have hu1 := u1 hr; have T := TA gh; have CK := CA gh; have hI := T.hI; have ND := sc_need_letters.nd; have C := CK.c
  (S_cons hcl (S_if hcl (I_tnot hcl (I_tst hcl (I_call hcl (C "is_alphabet" (by decide)) hr hg tk rfl T.g_is_alphabet T.k_is_alphabet (I_args hcl (I_var 0 rfl (vis_of rfl) rfl rfl) I_args0 rfl) rfl rfl rfl) fun _ => rfl)) (S_cons hcl (S_raise (n := "BadLetters") hcl rfl tk T.c_BadLetters PySem.F.excBase_ValueError T.e_BadLetters.1 T.x_BadLetters T.e_BadLetters.2.1 (raises_own T.e_BadLetters.2.2.1 T.e_BadLetters.2.2.2) rfl (I_args hcl (I_str (by decide +kernel)) I_args0 rfl) rfl rfl rfl)
  S_nil) S_nil)
  S_nil)
theorem sc_is_text : FnScope ["letters", "value", "letter"] ["letters", "value"] (defScope st_is_text) := ⟨rfl, rfl, rfl, by decide +kernel, rfl, by decide +kernel, by decide +kernel⟩
theorem f_is_text {gh : List GF} (TA : ∀ gh, Tx w K mg gh) (CA : ∀ gh, Cals P w K mg base n gh) (TB : ∀ m : String, m ∈ mkN → LamX.TabB base mg (cOf K (gaS K m)) (pOf K (gaS K m))) (F : Fun K "is_text" "is_text" st_is_text f fd) : FnG P w K mg base (4 * n + 2 + 1 + 1 + 1 + 1) f fd ["letters", "value"] (spB K (CT K gh) (callN tab n) c_is_text) :=
  fnG_run F sc_is_text rfl rfl (callN_gro tab n) fun cdv A out s H E W hrL hg tk hp =>
  have hcl := callN_gro tab n; have hr0 := hrL.mono (Nat.le_trans (Nat.le_succ _) (Nat.le_succ _)); have hr := hr0.mono (Nat.le_succ _); have hu := u65 hr; have hu1 := u1 hr; have T := TA gh; have CK := CA gh; have hI := T.hI; have ND := sc_is_text.nd; have C := CK.c
  (S_cons hcl (S_ex hcl (I_call hcl (C "need_letters" (by decide)) hr hg tk rfl T.g_need_letters T.k_need_letters (I_args hcl (I_var 0 rfl (vis_of rfl) rfl rfl) I_args0 rfl) rfl rfl rfl) rfl)
  (S_cons hcl (S_ret hcl (I_and hcl (I_isi hcl hI T.hE rfl T.n_isinstance rfl (I_var 1 rfl (vis_of rfl) rfl rfl) (I_ty (T := "str") rfl T.n_str rfl (by decide) rfl) (.ty _) T.ty_str rfl rfl rfl) (I_one (I_bltB hcl (call_all_b rfl) rfl T.n_all rfl (I_args hcl (I_lc (own := [(SO "letter", 2)]) rfl hcl rfl ND (P_val hcl (I_var 1 rfl (vis_of rfl) rfl rfl)) (blkOk_by rfl) (fun _ _ _ _ _ => (G_nm ND rfl (loc_of rfl) (fn_of rfl) (by decide))) (fun _ _ _ _ _ => T_nil) (fun _ _ _ _ _ => (I_cmp (o := .isin) rfl hu hcl (I_var 2 rfl (vis_of rfl) rfl rfl) (I_var 0 rfl (vis_of rfl) rfl rfl) rfl)) (fun _ => rfl)) I_args0 rfl) (by decide) rfl rfl rfl))))
  S_nil))
theorem sc_need_text : FnScope ["letters", "value"] ["letters", "value"] (defScope st_need_text) := ⟨rfl, rfl, rfl, by decide +kernel, rfl, by decide +kernel, by decide +kernel⟩
theorem f_need_text {gh : List GF} (TA : ∀ gh, Tx w K mg gh) (CA : ∀ gh, Cals P w K mg base n gh) (TB : ∀ m : String, m ∈ mkN → LamX.TabB base mg (cOf K (gaS K m)) (pOf K (gaS K m))) (F : Fun K "need_text" "need_text" st_need_text f fd) : FnG P w K mg base (4 * n + 2 + 1 + 1 + 1 + 1) f fd ["letters", "value"] (spB K (CT K gh) (callN tab n) c_need_text) :=
  fnG_run F sc_need_text rfl rfl (callN_gro tab n) fun cdv A out s H E W hrL hg tk hp =>
  have hcl := callN_gro tab n; have hr0 := hrL.mono (Nat.le_trans (Nat.le_succ _) (Nat.le_succ _)); have hr := hr0.mono (Nat.le_succ _); have hu := u65 hr; have hu1 := u1 hr; have T := TA gh; have CK := CA gh; have hI := T.hI; have ND := sc_need_text.nd; have C := CK.c
  (S_cons hcl (S_if hcl (I_tnot hcl (I_tst hcl (I_call hcl (C "is_text" (by decide)) hr hg tk rfl T.g_is_text T.k_is_text (I_args hcl (I_var 0 rfl (vis_of rfl) rfl rfl) (I_args hcl (I_var 1 rfl (vis_of rfl) rfl rfl) I_args0 rfl) rfl) rfl rfl rfl) fun _ => rfl)) (S_cons hcl (S_raise (n := "BadText") hcl rfl tk T.c_BadText PySem.F.excBase_ValueError T.e_BadText.1 T.x_BadText T.e_BadText.2.1 (raises_own T.e_BadText.2.2.1 T.e_BadText.2.2.2) rfl (I_args hcl (I_str (by decide +kernel)) I_args0 rfl) rfl rfl rfl)
  S_nil) S_nil)
  S_nil)
theorem sc_is_row : FnScope ["letters", "row", "many", "state"] ["letters", "row", "many"] (defScope st_is_row) := ⟨rfl, rfl, rfl, by decide +kernel, rfl, by decide +kernel, by decide +kernel⟩
theorem f_is_row {gh : List GF} (TA : ∀ gh, Tx w K mg gh) (CA : ∀ gh, Cals P w K mg base n gh) (TB : ∀ m : String, m ∈ mkN → LamX.TabB base mg (cOf K (gaS K m)) (pOf K (gaS K m))) (F : Fun K "is_row" "is_row" st_is_row f fd) : FnG P w K mg base (4 * n + 2 + 1 + 1 + 1 + 1) f fd ["letters", "row", "many"] (spB K (CT K gh) (callN tab n) c_is_row) :=
  fnG_run F sc_is_row rfl rfl (callN_gro tab n) fun cdv A out s H E W hrL hg tk hp =>
  have hcl := callN_gro tab n; have hr0 := hrL.mono (Nat.le_trans (Nat.le_succ _) (Nat.le_succ _)); have hr := hr0.mono (Nat.le_succ _); have hu := u65 hr; have hu1 := u1 hr; have T := TA gh; have CK := CA gh; have hI := T.hI; have ND := sc_is_row.nd; have C := CK.c
  (S_cons hcl (S_if hcl (I_tw (I_wor hcl (I_tnot hcl (I_tst hcl (I_isiT hcl hI T.hE rfl T.n_isinstance rfl (I_var 1 rfl (vis_of rfl) rfl rfl) (tys_cons (I_ty (T := "list") rfl T.n_list rfl (by decide) rfl) (tys_cons (I_ty (T := "tuple") rfl T.n_tuple rfl (by decide) rfl) tys_nil rfl) rfl) (few_tys (by decide)) (.cons (.ty _) (.cons (.ty _) .nil)) (.cons T.ty_list (.cons T.ty_tuple .nil)) rfl rfl rfl) fun _ => rfl)) (I_wor1 (I_tcmp (o := .ne) rfl hu hcl (I_bltB hcl call_len_b rfl T.n_len rfl (I_args hcl (I_var 1 rfl (vis_of rfl) rfl rfl) I_args0 rfl) (by decide) rfl rfl rfl) (I_bltB hcl call_len_b rfl T.n_len rfl (I_args hcl (I_var 0 rfl (vis_of rfl) rfl rfl) I_args0 rfl) (by decide) rfl rfl rfl) rfl)))) (S_cons hcl (S_ret hcl I_bl)
  S_nil) S_nil)
  (S_cons hcl (S_ret hcl (I_bltB hcl (call_all_b rfl) rfl T.n_all rfl (I_args hcl (I_lc (own := [(SO "state", 3)]) rfl hcl rfl ND (P_val hcl (I_var 1 rfl (vis_of rfl) rfl rfl)) (blkOk_by rfl) (fun _ _ _ _ _ => (G_nm ND rfl (loc_of rfl) (fn_of rfl) (by decide))) (fun _ _ _ _ _ => T_nil) (fun _ _ _ _ _ => (I_call hcl (C "is_number" (by decide)) hr hg Mi.takes0 rfl T.g_is_number T.k_is_number (I_args hcl (I_var 3 rfl (vis_of rfl) rfl rfl) (I_args hcl I_int (I_args hcl (I_bop (o := .sub) rfl hcl (I_var 2 rfl (vis_of rfl) rfl rfl) I_int) I_args0 rfl) rfl) rfl) rfl rfl rfl)) (fun _ => rfl)) I_args0 rfl) (by decide) rfl rfl rfl))
  S_nil))
theorem sc_are_states : FnScope ["value", "many", "state"] ["value", "many"] (defScope st_are_states) := ⟨rfl, rfl, rfl, by decide +kernel, rfl, by decide +kernel, by decide +kernel⟩
theorem f_are_states {gh : List GF} (TA : ∀ gh, Tx w K mg gh) (CA : ∀ gh, Cals P w K mg base n gh) (TB : ∀ m : String, m ∈ mkN → LamX.TabB base mg (cOf K (gaS K m)) (pOf K (gaS K m))) (F : Fun K "are_states" "are_states" st_are_states f fd) : FnG P w K mg base (4 * n + 2 + 1 + 1 + 1 + 1) f fd ["value", "many"] (spB K (CT K gh) (callN tab n) c_are_states) :=
  fnG_run F sc_are_states rfl rfl (callN_gro tab n) fun cdv A out s H E W hrL hg tk hp =>
  have hcl := callN_gro tab n; have hr0 := hrL.mono (Nat.le_trans (Nat.le_succ _) (Nat.le_succ _)); have hr := hr0.mono (Nat.le_succ _); have hu := u65 hr; have hu1 := u1 hr; have T := TA gh; have CK := CA gh; have hI := T.hI; have ND := sc_are_states.nd; have C := CK.c
  (S_cons hcl (S_if hcl (I_tw (I_wor hcl (I_tnot hcl (I_tst hcl (I_isiT hcl hI T.hE rfl T.n_isinstance rfl (I_var 0 rfl (vis_of rfl) rfl rfl) (tys_cons (I_ty (T := "list") rfl T.n_list rfl (by decide) rfl) (tys_cons (I_ty (T := "tuple") rfl T.n_tuple rfl (by decide) rfl) tys_nil rfl) rfl) (few_tys (by decide)) (.cons (.ty _) (.cons (.ty _) .nil)) (.cons T.ty_list (.cons T.ty_tuple .nil)) rfl rfl rfl) fun _ => rfl)) (I_wor1 (I_tnot hcl (I_tst hcl (I_bltB hcl (call_all_b rfl) rfl T.n_all rfl (I_args hcl (I_lc (own := [(SO "state", 2)]) rfl hcl rfl ND (P_val hcl (I_var 0 rfl (vis_of rfl) rfl rfl)) (blkOk_by rfl) (fun _ _ _ _ _ => (G_nm ND rfl (loc_of rfl) (fn_of rfl) (by decide))) (fun _ _ _ _ _ => T_nil) (fun _ _ _ _ _ => (I_call hcl (C "is_number" (by decide)) hr hg Mi.takes0 rfl T.g_is_number T.k_is_number (I_args hcl (I_var 2 rfl (vis_of rfl) rfl rfl) (I_args hcl I_int (I_args hcl (I_bop (o := .sub) rfl hcl (I_var 1 rfl (vis_of rfl) rfl rfl) I_int) I_args0 rfl) rfl) rfl) rfl rfl rfl)) (fun _ => rfl)) I_args0 rfl) (by decide) rfl rfl rfl) fun _ => rfl))))) (S_cons hcl (S_ret hcl I_bl)
  S_nil) S_nil)
  (S_cons hcl (S_ret hcl (I_cmp (o := .eq) rfl hu hcl (I_lset hcl rfl rfl T.n_len rfl T.n_set (I_var 0 rfl (vis_of rfl) rfl rfl) rfl) (I_bltB hcl call_len_b rfl T.n_len rfl (I_args hcl (I_var 0 rfl (vis_of rfl) rfl rfl) I_args0 rfl) (by decide) rfl rfl rfl) rfl))
  S_nil))
theorem sc_Machine____init__ : FnScope ["self", "letters", "rows", "accepting", "index", "row"] ["self", "letters", "rows", "accepting"] (defScope st_Machine____init__) := ⟨rfl, rfl, rfl, by decide +kernel, rfl, by decide +kernel, by decide +kernel⟩
theorem f_Machine____init__ {gh : List GF} (TA : ∀ gh, Tx w K mg gh) (CA : ∀ gh, Cals P w K mg base n gh) (TB : ∀ m : String, m ∈ mkN → LamX.TabB base mg (cOf K (gaS K m)) (pOf K (gaS K m))) (F : Fun K "__init__" "Machine.__init__" st_Machine____init__ f fd) : FnG P w K mg base (4 * n + 2 + 1 + 1 + 1 + 1) f fd ["self", "letters", "rows", "accepting"] (spB K (CT K gh) (callN tab n) c_Machine____init__) :=
  fnG_run F sc_Machine____init__ rfl rfl (callN_gro tab n) fun cdv A out s H E W hrL hg tk hp =>
  have hcl := callN_gro tab n; have hr0 := hrL.mono (Nat.le_trans (Nat.le_succ _) (Nat.le_succ _)); have hr := hr0.mono (Nat.le_succ _); have hu := u65 hr; have hu1 := u1 hr; have T := TA gh; have CK := CA gh; have hI := T.hI; have ND := sc_Machine____init__.nd; have C := CK.c
  (S_cons hcl (S_ex hcl (I_call hcl (C "need_letters" (by decide)) hr hg tk rfl T.g_need_letters T.k_need_letters (I_args hcl (I_var 1 rfl (vis_of rfl) rfl rfl) I_args0 rfl) rfl rfl rfl) rfl)
  (S_cons hcl (S_if hcl (I_tw (I_wor hcl (I_tnot hcl (I_tst hcl (I_isiT hcl hI T.hE rfl T.n_isinstance rfl (I_var 2 rfl (vis_of rfl) rfl rfl) (tys_cons (I_ty (T := "list") rfl T.n_list rfl (by decide) rfl) (tys_cons (I_ty (T := "tuple") rfl T.n_tuple rfl (by decide) rfl) tys_nil rfl) rfl) (few_tys (by decide)) (.cons (.ty _) (.cons (.ty _) .nil)) (.cons T.ty_list (.cons T.ty_tuple .nil)) rfl rfl rfl) fun _ => rfl)) (I_wor1 (I_tnot hcl (I_tchain (o := .le) (o' := .le) rfl rfl hu hcl I_int (I_bltB hcl call_len_b rfl T.n_len rfl (I_args hcl (I_var 2 rfl (vis_of rfl) rfl rfl) I_args0 rfl) (by decide) rfl rfl rfl) (I_gintE rfl T.i_MOST_STATES rfl) (by with_unfolding_all rfl)))))) (S_cons hcl (S_raiseI (n := "BadMachine") (f := "index") hcl rfl tk T.c_BadMachine CK.l_BadMachine hr rfl I_int rfl rfl rfl)
  S_nil) S_nil)
  (S_cons hcl (S_for (vv := [4, 5]) hcl hp rfl (P_enum hcl rfl T.n_enumerate (I_args hcl (I_var 2 rfl (vis_of rfl) rfl rfl) I_args0 rfl) rfl) (G_tup rfl (Gs_cons (G_nm ND rfl (loc_of rfl) (fn_of rfl) (by decide)) (Gs_cons (G_nm ND rfl (loc_of rfl) (fn_of rfl) (by decide)) Gs_nil rfl) rfl) rfl rfl rfl) (S_cons hcl (S_if hcl (I_tnot hcl (I_tst hcl (I_call hcl (C "is_row" (by decide)) hr hg tk rfl T.g_is_row T.k_is_row (I_args hcl (I_var 1 rfl (vis_of rfl) rfl rfl) (I_args hcl (I_var 5 rfl (vis_of rfl) rfl rfl) (I_args hcl (I_bltB hcl call_len_b rfl T.n_len rfl (I_args hcl (I_var 2 rfl (vis_of rfl) rfl rfl) I_args0 rfl) (by decide) rfl rfl rfl) I_args0 rfl) rfl) rfl) rfl rfl rfl) fun _ => rfl)) (S_cons hcl (S_raiseI (n := "BadMachine") (f := "index") hcl rfl tk T.c_BadMachine CK.l_BadMachine hr rfl (I_var 4 rfl (vis_of rfl) rfl rfl) rfl rfl rfl)
  S_nil) S_nil)
  S_nil) fun _ => rfl)
  (S_cons hcl (S_if hcl (I_tnot hcl (I_tst hcl (I_call hcl (C "are_states" (by decide)) hr hg tk rfl T.g_are_states T.k_are_states (I_args hcl (I_var 3 rfl (vis_of rfl) rfl rfl) (I_args hcl (I_bltB hcl call_len_b rfl T.n_len rfl (I_args hcl (I_var 2 rfl (vis_of rfl) rfl rfl) I_args0 rfl) (by decide) rfl rfl rfl) I_args0 rfl) rfl) rfl rfl rfl) fun _ => rfl)) (S_cons hcl (S_raiseI (n := "BadMachine") (f := "index") hcl rfl tk T.c_BadMachine CK.l_BadMachine hr rfl (I_bltB hcl call_len_b rfl T.n_len rfl (I_args hcl (I_var 2 rfl (vis_of rfl) rfl rfl) I_args0 rfl) (by decide) rfl rfl rfl) rfl rfl rfl)
  S_nil) S_nil)
  (S_cons hcl (S_setf rfl hcl T.na_own_letters (I_var 0 rfl (vis_of rfl) rfl rfl) (I_var 1 rfl (vis_of rfl) rfl rfl) rfl)
  (S_cons hcl (S_setf rfl hcl T.na_own_rows (I_var 0 rfl (vis_of rfl) rfl rfl) (I_bltT hcl call_tuple_b rfl T.n_tuple rfl (I_args hcl (I_lc (own := [(SO "row", 5)]) rfl hcl rfl ND (P_val hcl (I_var 2 rfl (vis_of rfl) rfl rfl)) (blkOk_by rfl) (fun _ _ _ _ _ => (G_nm ND rfl (loc_of rfl) (fn_of rfl) (by decide))) (fun _ _ _ _ _ => T_nil) (fun _ _ _ _ _ => (I_bltT hcl call_tuple_b rfl T.n_tuple rfl (I_args hcl (I_var 5 rfl (vis_of rfl) rfl rfl) I_args0 rfl) (by decide) rfl rfl rfl)) (fun _ => rfl)) I_args0 rfl) (by decide) rfl rfl rfl) rfl)
  (S_cons hcl (S_setf rfl hcl T.na_own_accepting (I_var 0 rfl (vis_of rfl) rfl rfl) (I_bltT hcl call_tuple_b rfl T.n_tuple rfl (I_args hcl (I_bltB hcl call_sorted_b rfl T.n_sorted rfl (I_args hcl (I_var 3 rfl (vis_of rfl) rfl rfl) I_args0 rfl) (by decide) rfl rfl rfl) I_args0 rfl) (by decide) rfl rfl rfl) rfl)
  S_nil)))))))
theorem sc_Machine____len__ : FnScope ["self"] ["self"] (defScope st_Machine____len__) := ⟨rfl, rfl, rfl, by decide +kernel, rfl, by decide +kernel, by decide +kernel⟩
theorem f_Machine____len__ {gh : List GF} (TA : ∀ gh, Tx w K mg gh) (CA : ∀ gh, Cals P w K mg base n gh) (TB : ∀ m : String, m ∈ mkN → LamX.TabB base mg (cOf K (gaS K m)) (pOf K (gaS K m))) (F : Fun K "__len__" "Machine.__len__" st_Machine____len__ f fd) : FnG P w K mg base (4 * n + 2 + 1 + 1 + 1 + 1) f fd ["self"] (spB K (CT K gh) (callN tab n) c_Machine____len__) :=
  fnG_run F sc_Machine____len__ rfl rfl (callN_gro tab n) fun cdv A out s H E W hrL hg tk hp =>
  have hcl := callN_gro tab n; have hr0 := hrL.mono (Nat.le_trans (Nat.le_succ _) (Nat.le_succ _)); have hr := hr0.mono (Nat.le_succ _); have hu := u65 hr; have hu1 := u1 hr; have T := TA gh; have CK := CA gh; have hI := T.hI; have ND := sc_Machine____len__.nd; have C := CK.c
  (S_cons hcl (S_ret hcl (I_bltB hcl call_len_b rfl T.n_len rfl (I_args hcl (I_fld rfl hcl T.na_own_rows T.xf_own_rows (I_var 0 rfl (vis_of rfl) rfl rfl) rfl) I_args0 rfl) (by decide) rfl rfl rfl))
  S_nil)
theorem sc_Machine__end : FnScope ["self", "text"] ["self", "text"] (defScope st_Machine__end) := ⟨rfl, rfl, rfl, by decide +kernel, rfl, by decide +kernel, by decide +kernel⟩
theorem f_Machine__end {gh : List GF} (TA : ∀ gh, Tx w K mg gh) (CA : ∀ gh, Cals P w K mg base n gh) (TB : ∀ m : String, m ∈ mkN → LamX.TabB base mg (cOf K (gaS K m)) (pOf K (gaS K m))) (F : Fun K "end" "Machine.end" st_Machine__end f fd) : FnG P w K mg base (4 * n + 2 + 1 + 1 + 1 + 1) f fd ["self", "text"] (spB K (CT K gh) (callN tab n) c_Machine__end) :=
  fnG_run F sc_Machine__end rfl rfl (callN_gro tab n) fun cdv A out s H E W hrL hg tk hp =>
  have hcl := callN_gro tab n; have hr0 := hrL.mono (Nat.le_trans (Nat.le_succ _) (Nat.le_succ _)); have hr := hr0.mono (Nat.le_succ _); have hu := u65 hr; have hu1 := u1 hr; have T := TA gh; have CK := CA gh; have hI := T.hI; have ND := sc_Machine__end.nd; have C := CK.c
  (S_cons hcl (S_ex hcl (I_call hcl (C "need_text" (by decide)) hr hg tk rfl T.g_need_text T.k_need_text (I_args hcl (I_fld rfl hcl T.na_own_letters T.xf_own_letters (I_var 0 rfl (vis_of rfl) rfl rfl) rfl) (I_args hcl (I_var 1 rfl (vis_of rfl) rfl rfl) I_args0 rfl) rfl) rfl rfl rfl) rfl)
  (S_cons hcl (S_ret hcl (I_call hcl (C "state_behind" (by decide)) hr hg tk rfl T.g_state_behind T.k_state_behind (I_args hcl (I_fld rfl hcl T.na_own_letters T.xf_own_letters (I_var 0 rfl (vis_of rfl) rfl rfl) rfl) (I_args hcl (I_fld rfl hcl T.na_own_rows T.xf_own_rows (I_var 0 rfl (vis_of rfl) rfl rfl) rfl) (I_args hcl I_int (I_args hcl (I_var 1 rfl (vis_of rfl) rfl rfl) I_args0 rfl) rfl) rfl) rfl) rfl rfl rfl))
  S_nil))
theorem sc_Machine____contains__ : FnScope ["self", "text"] ["self", "text"] (defScope st_Machine____contains__) := ⟨rfl, rfl, rfl, by decide +kernel, rfl, by decide +kernel, by decide +kernel⟩
theorem f_Machine____contains__ {gh : List GF} (TA : ∀ gh, Tx w K mg gh) (CA : ∀ gh, Cals P w K mg base n gh) (TB : ∀ m : String, m ∈ mkN → LamX.TabB base mg (cOf K (gaS K m)) (pOf K (gaS K m))) (F : Fun K "__contains__" "Machine.__contains__" st_Machine____contains__ f fd) : FnG P w K mg base (4 * n + 2 + 1 + 1 + 1 + 1) f fd ["self", "text"] (spB K (CT K gh) (callN tab n) c_Machine____contains__) :=
  fnG_run F sc_Machine____contains__ rfl rfl (callN_gro tab n) fun cdv A out s H E W hrL hg tk hp =>
  have hcl := callN_gro tab n; have hr0 := hrL.mono (Nat.le_trans (Nat.le_succ _) (Nat.le_succ _)); have hr := hr0.mono (Nat.le_succ _); have hu := u65 hr; have hu1 := u1 hr; have T := TA gh; have CK := CA gh; have hI := T.hI; have ND := sc_Machine____contains__.nd; have C := CK.c
  (S_cons hcl (S_if hcl (I_tnot hcl (I_tst hcl (I_call hcl (C "is_text" (by decide)) hr hg tk rfl T.g_is_text T.k_is_text (I_args hcl (I_fld rfl hcl T.na_own_letters T.xf_own_letters (I_var 0 rfl (vis_of rfl) rfl rfl) rfl) (I_args hcl (I_var 1 rfl (vis_of rfl) rfl rfl) I_args0 rfl) rfl) rfl rfl rfl) fun _ => rfl)) (S_cons hcl (S_ret hcl I_bl)
  S_nil) S_nil)
  (S_cons hcl (S_ret hcl (I_cmp (o := .isin) rfl hu hcl (I_call hcl (C "state_behind" (by decide)) hr hg tk rfl T.g_state_behind T.k_state_behind (I_args hcl (I_fld rfl hcl T.na_own_letters T.xf_own_letters (I_var 0 rfl (vis_of rfl) rfl rfl) rfl) (I_args hcl (I_fld rfl hcl T.na_own_rows T.xf_own_rows (I_var 0 rfl (vis_of rfl) rfl rfl) rfl) (I_args hcl I_int (I_args hcl (I_var 1 rfl (vis_of rfl) rfl rfl) I_args0 rfl) rfl) rfl) rfl) rfl rfl rfl) (I_fld rfl hcl T.na_own_accepting T.xf_own_accepting (I_var 0 rfl (vis_of rfl) rfl rfl) rfl) rfl))
  S_nil))
theorem sc_Machine____call__ : FnScope ["self", "state", "text"] ["self", "state", "text"] (defScope st_Machine____call__) := ⟨rfl, rfl, rfl, by decide +kernel, rfl, by decide +kernel, by decide +kernel⟩
theorem f_Machine____call__ {gh : List GF} (TA : ∀ gh, Tx w K mg gh) (CA : ∀ gh, Cals P w K mg base n gh) (TB : ∀ m : String, m ∈ mkN → LamX.TabB base mg (cOf K (gaS K m)) (pOf K (gaS K m))) (F : Fun K "__call__" "Machine.__call__" st_Machine____call__ f fd) : FnG P w K mg base (4 * n + 2 + 1 + 1 + 1 + 1) f fd ["self", "state", "text"] (spB K (CT K gh) (callN tab n) c_Machine____call__) :=
  fnG_run F sc_Machine____call__ rfl rfl (callN_gro tab n) fun cdv A out s H E W hrL hg tk hp =>
  have hcl := callN_gro tab n; have hr0 := hrL.mono (Nat.le_trans (Nat.le_succ _) (Nat.le_succ _)); have hr := hr0.mono (Nat.le_succ _); have hu := u65 hr; have hu1 := u1 hr; have T := TA gh; have CK := CA gh; have hI := T.hI; have ND := sc_Machine____call__.nd; have C := CK.c
  (S_cons hcl (S_if hcl (I_tnot hcl (I_tst hcl (I_call hcl (C "is_number" (by decide)) hr hg tk rfl T.g_is_number T.k_is_number (I_args hcl (I_var 1 rfl (vis_of rfl) rfl rfl) (I_args hcl I_int (I_args hcl (I_bop (o := .sub) rfl hcl (I_bltB hcl call_len_b rfl T.n_len rfl (I_args hcl (I_fld rfl hcl T.na_own_rows T.xf_own_rows (I_var 0 rfl (vis_of rfl) rfl rfl) rfl) I_args0 rfl) (by decide) rfl rfl rfl) I_int) I_args0 rfl) rfl) rfl) rfl rfl rfl) fun _ => rfl)) (S_cons hcl (S_raise (n := "BadNumber") hcl rfl tk T.c_BadNumber PySem.F.excBase_ValueError T.e_BadNumber.1 T.x_BadNumber T.e_BadNumber.2.1 (raises_own T.e_BadNumber.2.2.1 T.e_BadNumber.2.2.2) rfl (I_args hcl (I_str (by decide +kernel)) I_args0 rfl) rfl rfl rfl)
  S_nil) S_nil)
  (S_cons hcl (S_ex hcl (I_call hcl (C "need_text" (by decide)) hr hg tk rfl T.g_need_text T.k_need_text (I_args hcl (I_fld rfl hcl T.na_own_letters T.xf_own_letters (I_var 0 rfl (vis_of rfl) rfl rfl) rfl) (I_args hcl (I_var 2 rfl (vis_of rfl) rfl rfl) I_args0 rfl) rfl) rfl rfl rfl) rfl)
  (S_cons hcl (S_ret hcl (I_call hcl (C "state_behind" (by decide)) hr hg tk rfl T.g_state_behind T.k_state_behind (I_args hcl (I_fld rfl hcl T.na_own_letters T.xf_own_letters (I_var 0 rfl (vis_of rfl) rfl rfl) rfl) (I_args hcl (I_fld rfl hcl T.na_own_rows T.xf_own_rows (I_var 0 rfl (vis_of rfl) rfl rfl) rfl) (I_args hcl (I_var 1 rfl (vis_of rfl) rfl rfl) (I_args hcl (I_var 2 rfl (vis_of rfl) rfl rfl) I_args0 rfl) rfl) rfl) rfl) rfl rfl rfl))
  S_nil)))
theorem sc_place_of : FnScope ["letters", "letter", "place", "one"] ["letters", "letter"] (defScope st_place_of) := ⟨rfl, rfl, rfl, by decide +kernel, rfl, by decide +kernel, by decide +kernel⟩
theorem f_place_of {gh : List GF} (TA : ∀ gh, Tx w K mg gh) (CA : ∀ gh, Cals P w K mg base n gh) (TB : ∀ m : String, m ∈ mkN → LamX.TabB base mg (cOf K (gaS K m)) (pOf K (gaS K m))) (F : Fun K "place_of" "place_of" st_place_of f fd) : FnG P w K mg base (4 * n + 2 + 1 + 1 + 1 + 1) f fd ["letters", "letter"] (spB K (CT K gh) (callN tab n) c_place_of) :=
  fnG_run F sc_place_of rfl rfl (callN_gro tab n) fun cdv A out s H E W hrL hg tk hp =>
  have hcl := callN_gro tab n; have hr0 := hrL.mono (Nat.le_trans (Nat.le_succ _) (Nat.le_succ _)); have hr := hr0.mono (Nat.le_succ _); have hu := u65 hr; have hu1 := u1 hr; have T := TA gh; have CK := CA gh; have hI := T.hI; have ND := sc_place_of.nd; have C := CK.c
  (S_cons hcl (S_ret hcl (I_idx hu1 hcl (I_lc (own := [(SO "place", 2), (SO "one", 3)]) rfl hcl rfl ND (P_enums hcl rfl T.n_enumerate (I_args hcl (I_var 0 rfl (vis_of rfl) rfl rfl) I_args0 rfl) rfl) (blkOk_by rfl) (fun _ _ _ _ _ => (G_tup rfl (Gs_cons (G_nm ND rfl (loc_of rfl) (fn_of rfl) (by decide)) (Gs_cons (G_nm ND rfl (loc_of rfl) (fn_of rfl) (by decide)) Gs_nil rfl) rfl) rfl rfl rfl)) (fun _ _ _ _ _ => (T_one (I_tcmp (o := .eq) rfl hu hcl (I_var 3 rfl (vis_of rfl) rfl rfl) (I_var 1 rfl (vis_of rfl) rfl rfl) rfl))) (fun _ _ _ _ _ => (I_var 2 rfl (vis_of rfl) rfl rfl)) (fun _ => rfl)) I_int fun _ _ => rfl))
  S_nil)
theorem sc_state_behind : FnScope ["letters", "rows", "state", "text", "letter"] ["letters", "rows", "state", "text"] (defScope st_state_behind) := ⟨rfl, rfl, rfl, by decide +kernel, rfl, by decide +kernel, by decide +kernel⟩
theorem f_state_behind {gh : List GF} (TA : ∀ gh, Tx w K mg gh) (CA : ∀ gh, Cals P w K mg base n gh) (TB : ∀ m : String, m ∈ mkN → LamX.TabB base mg (cOf K (gaS K m)) (pOf K (gaS K m))) (F : Fun K "state_behind" "state_behind" st_state_behind f fd) : FnG P w K mg base (4 * n + 2 + 1 + 1 + 1 + 1) f fd ["letters", "rows", "state", "text"] (spB K (CT K gh) (callN tab n) c_state_behind) :=
  fnG_run F sc_state_behind rfl rfl (callN_gro tab n) fun cdv A out s H E W hrL hg tk hp =>
  have hcl := callN_gro tab n; have hr0 := hrL.mono (Nat.le_trans (Nat.le_succ _) (Nat.le_succ _)); have hr := hr0.mono (Nat.le_succ _); have hu := u65 hr; have hu1 := u1 hr; have T := TA gh; have CK := CA gh; have hI := T.hI; have ND := sc_state_behind.nd; have C := CK.c
  (S_cons hcl (S_for (vv := [4]) hcl hp rfl (P_val hcl (I_var 3 rfl (vis_of rfl) rfl rfl)) (G_nm ND rfl (loc_of rfl) (fn_of rfl) (by decide)) (S_cons hcl (S_set (i := 2) hcl ND rfl (loc_of rfl) (I_idx hu1 hcl (I_idx hu1 hcl (I_var 1 rfl (vis_of rfl) rfl rfl) (I_var 2 rfl (vis_of rfl) rfl rfl) fun _ _ => rfl) (I_call hcl (C "place_of" (by decide)) hr hg tk rfl T.g_place_of T.k_place_of (I_args hcl (I_var 0 rfl (vis_of rfl) rfl rfl) (I_args hcl (I_var 4 rfl (vis_of rfl) rfl rfl) I_args0 rfl) rfl) rfl rfl rfl) fun _ _ => rfl) rfl (fn_of rfl))
  S_nil) fun _ => rfl)
  (S_cons hcl (S_ret hcl (I_var 2 rfl (vis_of rfl) rfl rfl))
  S_nil))
theorem sc__law_begin : FnScope ["_law_cell", "_law_turn"] ["_law_cell", "_law_turn"] (defScope st__law_begin) := ⟨rfl, rfl, rfl, by decide +kernel, rfl, by decide +kernel, by decide +kernel⟩
theorem f__law_begin {gh : List GF} (TA : ∀ gh, Tx w K mg gh) (CA : ∀ gh, Cals P w K mg base n gh) (TB : ∀ m : String, m ∈ mkN → LamX.TabB base mg (cOf K (gaS K m)) (pOf K (gaS K m))) (F : Fun K "_law_begin" "_law_begin" st__law_begin f fd) : FnG P w K mg base (4 * n + 2 + 1 + 1 + 1 + 1) f fd ["_law_cell", "_law_turn"] (spB K (CT K gh) (callN tab n) c__law_begin) :=
  fnG_run F sc__law_begin rfl rfl (callN_gro tab n) fun cdv A out s H E W hrL hg tk hp =>
  have hcl := callN_gro tab n; have hr0 := hrL.mono (Nat.le_trans (Nat.le_succ _) (Nat.le_succ _)); have hr := hr0.mono (Nat.le_succ _); have hu := u65 hr; have hu1 := u1 hr; have T := TA gh; have CK := CA gh; have hI := T.hI; have ND := sc__law_begin.nd; have C := CK.c
  (S_cons hcl (S_ret hcl (I_lst hcl (I_args hcl (I_bltB hcl (call_max_b rfl) rfl T.n_max rfl (I_args hcl I_int (I_args hcl (I_bop (o := .sub) rfl hcl (I_var 0 rfl (vis_of rfl) rfl rfl) (I_bop (o := .pow) rfl hcl I_int I_int)) I_args0 rfl) rfl) (by decide) rfl rfl rfl) (I_args hcl (I_bop (o := .add) rfl hcl (I_var 0 rfl (vis_of rfl) rfl rfl) (I_bop (o := .mul) rfl hcl I_int (I_var 1 rfl (vis_of rfl) rfl rfl))) (I_args hcl I_int I_args0 rfl) rfl) rfl)))
  S_nil)
theorem sc__law_draw : FnScope ["_law_state", "_law_size", "_law_found"] ["_law_state", "_law_size"] (defScope st__law_draw) := ⟨rfl, rfl, rfl, by decide +kernel, rfl, by decide +kernel, by decide +kernel⟩
theorem f__law_draw {gh : List GF} (TA : ∀ gh, Tx w K mg gh) (CA : ∀ gh, Cals P w K mg base n gh) (TB : ∀ m : String, m ∈ mkN → LamX.TabB base mg (cOf K (gaS K m)) (pOf K (gaS K m))) (F : Fun K "_law_draw" "_law_draw" st__law_draw f fd) : FnG P w K mg base (4 * n + 2 + 1 + 1 + 1 + 1) f fd ["_law_state", "_law_size"] (spB K (CT K gh) (callN tab n) c__law_draw) :=
  fnG_run F sc__law_draw rfl rfl (callN_gro tab n) fun cdv A out s H E W hrL hg tk hp =>
  have hcl := callN_gro tab n; have hr0 := hrL.mono (Nat.le_trans (Nat.le_succ _) (Nat.le_succ _)); have hr := hr0.mono (Nat.le_succ _); have hu := u65 hr; have hu1 := u1 hr; have T := TA gh; have CK := CA gh; have hI := T.hI; have ND := sc__law_draw.nd; have C := CK.c
  (S_cons hcl (S_if hcl (I_tcmp (o := .gt) rfl hu hcl (I_idx hu1 hcl (I_var 0 rfl (vis_of rfl) rfl rfl) I_int fun _ _ => rfl) I_int rfl) (S_cons hcl (S_set (i := 2) hcl ND rfl (loc_of rfl) (I_bop (o := .mod) rfl hcl (I_bltT hcl call_int_b rfl T.n_int rfl (I_args hcl (I_idx hu1 hcl (I_var 0 rfl (vis_of rfl) rfl rfl) I_int fun _ _ => rfl) I_args0 rfl) (by decide) rfl rfl rfl) (I_var 1 rfl (vis_of rfl) rfl rfl)) rfl (fn_of rfl))
  (S_cons hcl (S_seti hu1 hcl (I_var 0 rfl (vis_of rfl) rfl rfl) I_int (I_bop (o := .fdiv) rfl hcl (I_idx hu1 hcl (I_var 0 rfl (vis_of rfl) rfl rfl) I_int fun _ _ => rfl) (I_var 1 rfl (vis_of rfl) rfl rfl)) rfl rfl rfl fun _ => rfl)
  (S_cons hcl (S_ret hcl (I_var 2 rfl (vis_of rfl) rfl rfl))
  S_nil))) S_nil)
  (S_cons hcl (S_seti hu1 hcl (I_var 0 rfl (vis_of rfl) rfl rfl) I_int (I_bop (o := .add) rfl hcl (I_idx hu1 hcl (I_var 0 rfl (vis_of rfl) rfl rfl) I_int fun _ _ => rfl) I_int) rfl rfl rfl fun _ => rfl)
  (S_cons hcl (S_set (i := 2) hcl ND rfl (loc_of rfl) (I_bop (o := .add) rfl hcl (I_bop (o := .mod) rfl hcl (I_bltT hcl call_int_b rfl T.n_int rfl (I_args hcl (I_idx hu1 hcl (I_var 0 rfl (vis_of rfl) rfl rfl) I_int fun _ _ => rfl) I_args0 rfl) (by decide) rfl rfl rfl) I_int) (I_bop (o := .mul) rfl hcl I_int (I_idx hu1 hcl (I_var 0 rfl (vis_of rfl) rfl rfl) I_int fun _ _ => rfl))) rfl (fn_of rfl))
  (S_cons hcl (S_set (i := 2) hcl ND rfl (loc_of rfl) (I_bop (o := .mul) rfl hcl (I_var 2 rfl (vis_of rfl) rfl rfl) (I_bop (o := .add) rfl hcl (I_bop (o := .add) rfl hcl (I_bop (o := .mod) rfl hcl (I_bltT hcl call_int_b rfl T.n_int rfl (I_args hcl (I_idx hu1 hcl (I_var 0 rfl (vis_of rfl) rfl rfl) I_int fun _ _ => rfl) I_args0 rfl) (by decide) rfl rfl rfl) I_int) (I_bop (o := .mul) rfl hcl (I_bop (o := .mul) rfl hcl I_int (I_idx hu1 hcl (I_var 0 rfl (vis_of rfl) rfl rfl) I_int fun _ _ => rfl)) (I_idx hu1 hcl (I_var 0 rfl (vis_of rfl) rfl rfl) I_int fun _ _ => rfl))) I_int)) rfl (fn_of rfl))
  (S_cons hcl (S_ret hcl (I_bop (o := .mod) rfl hcl (I_bltT hcl call_int_b rfl T.n_int rfl (I_args hcl (I_bop (o := .fdiv) rfl hcl (I_bop (o := .mod) rfl hcl (I_bltT hcl call_int_b rfl T.n_int rfl (I_args hcl (I_bop (o := .pow) rfl hcl (I_var 2 rfl (vis_of rfl) rfl rfl) I_int) I_args0 rfl) (by decide) rfl rfl rfl) I_int) I_int) I_args0 rfl) (by decide) rfl rfl rfl) (I_var 1 rfl (vis_of rfl) rfl rfl)))
  S_nil)))))
theorem sc__law_pick : FnScope ["_law_state", "_law_items"] ["_law_state", "_law_items"] (defScope st__law_pick) := ⟨rfl, rfl, rfl, by decide +kernel, rfl, by decide +kernel, by decide +kernel⟩
theorem f__law_pick {gh : List GF} (TA : ∀ gh, Tx w K mg gh) (CA : ∀ gh, Cals P w K mg base n gh) (TB : ∀ m : String, m ∈ mkN → LamX.TabB base mg (cOf K (gaS K m)) (pOf K (gaS K m))) (F : Fun K "_law_pick" "_law_pick" st__law_pick f fd) : FnG P w K mg base (4 * n + 2 + 1 + 1 + 1 + 1) f fd ["_law_state", "_law_items"] (spB K (CT K gh) (callN tab n) c__law_pick) :=
  fnG_run F sc__law_pick rfl rfl (callN_gro tab n) fun cdv A out s H E W hrL hg tk hp =>
  have hcl := callN_gro tab n; have hr0 := hrL.mono (Nat.le_trans (Nat.le_succ _) (Nat.le_succ _)); have hr := hr0.mono (Nat.le_succ _); have hu := u65 hr; have hu1 := u1 hr; have T := TA gh; have CK := CA gh; have hI := T.hI; have ND := sc__law_pick.nd; have C := CK.c
  (S_cons hcl (S_ret hcl (I_idx hu1 hcl (I_var 1 rfl (vis_of rfl) rfl rfl) (I_call hcl (C "_law_draw" (by decide)) hr hg tk rfl T.g__law_draw T.k__law_draw (I_args hcl (I_var 0 rfl (vis_of rfl) rfl rfl) (I_args hcl (I_bltB hcl call_len_b rfl T.n_len rfl (I_args hcl (I_var 1 rfl (vis_of rfl) rfl rfl) I_args0 rfl) (by decide) rfl rfl rfl) I_args0 rfl) rfl) rfl rfl rfl) fun _ _ => rfl))
  S_nil)
theorem sc__law_alphabet : FnScope ["_law_state"] ["_law_state"] (defScope st__law_alphabet) := ⟨rfl, rfl, rfl, by decide +kernel, rfl, by decide +kernel, by decide +kernel⟩
theorem f__law_alphabet {gh : List GF} (TA : ∀ gh, Tx w K mg gh) (CA : ∀ gh, Cals P w K mg base n gh) (TB : ∀ m : String, m ∈ mkN → LamX.TabB base mg (cOf K (gaS K m)) (pOf K (gaS K m))) (F : Fun K "_law_alphabet" "_law_alphabet" st__law_alphabet f fd) : FnG P w K mg base (4 * n + 2 + 1 + 1 + 1 + 1) f fd ["_law_state"] (spB K (CT K gh) (callN tab n) c__law_alphabet) :=
  fnG_run F sc__law_alphabet rfl rfl (callN_gro tab n) fun cdv A out s H E W hrL hg tk hp =>
  have hcl := callN_gro tab n; have hr0 := hrL.mono (Nat.le_trans (Nat.le_succ _) (Nat.le_succ _)); have hr := hr0.mono (Nat.le_succ _); have hu := u65 hr; have hu1 := u1 hr; have T := TA gh; have CK := CA gh; have hI := T.hI; have ND := sc__law_alphabet.nd; have C := CK.c
  (S_cons hcl (S_ret hcl (I_call hcl (C "_law_pick" (by decide)) hr hg tk rfl T.g__law_pick T.k__law_pick (I_args hcl (I_var 0 rfl (vis_of rfl) rfl rfl) (I_args hcl (I_lst hcl (I_args hcl (I_str (by decide +kernel)) (I_args hcl (I_str (by decide +kernel)) (I_args hcl (I_str (by decide +kernel)) (I_args hcl (I_str (by decide +kernel)) (I_args hcl (I_str (by decide +kernel)) (I_args hcl (I_str (by decide +kernel)) (I_args hcl (I_str (by decide +kernel)) (I_args hcl (I_str (by decide +kernel)) I_args0 rfl) rfl) rfl) rfl) rfl) rfl) rfl) rfl)) I_args0 rfl) rfl) rfl rfl rfl))
  S_nil)
theorem sc__law_word : FnScope ["_law_state", "_law_letters", "_law_most", "_law_k"] ["_law_state", "_law_letters", "_law_most"] (defScope st__law_word) := ⟨rfl, rfl, rfl, by decide +kernel, rfl, by decide +kernel, by decide +kernel⟩
theorem f__law_word {gh : List GF} (TA : ∀ gh, Tx w K mg gh) (CA : ∀ gh, Cals P w K mg base n gh) (TB : ∀ m : String, m ∈ mkN → LamX.TabB base mg (cOf K (gaS K m)) (pOf K (gaS K m))) (F : Fun K "_law_word" "_law_word" st__law_word f fd) : FnG P w K mg base (4 * n + 2 + 1 + 1 + 1 + 1) f fd ["_law_state", "_law_letters", "_law_most"] (spB K (CT K gh) (callN tab n) c__law_word) :=
  fnG_run F sc__law_word rfl rfl (callN_gro tab n) fun cdv A out s H E W hrL hg tk hp =>
  have hcl := callN_gro tab n; have hr0 := hrL.mono (Nat.le_trans (Nat.le_succ _) (Nat.le_succ _)); have hr := hr0.mono (Nat.le_succ _); have hu := u65 hr; have hu1 := u1 hr; have T := TA gh; have CK := CA gh; have hI := T.hI; have ND := sc__law_word.nd; have C := CK.c
  (S_cons hcl (S_ret hcl (I_mth hcl PySem.F.plainAttrs_str PySem.F.slot_str_join PySem.F.type_str_join mt_join_b (tyM_str fun _ _ => rfl) (I_str (by decide +kernel)) (I_args hcl (I_lc (own := [(SO "_law_k", 3)]) rfl hcl rfl ND (P_rng1 hcl rfl T.n_range (I_args hcl (I_call hcl (C "_law_draw" (by decide)) hr hg tk rfl T.g__law_draw T.k__law_draw (I_args hcl (I_var 0 rfl (vis_of rfl) rfl rfl) (I_args hcl (I_bop (o := .add) rfl hcl (I_var 2 rfl (vis_of rfl) rfl rfl) I_int) I_args0 rfl) rfl) rfl rfl rfl) I_args0 rfl) rfl) (blkOk_by rfl) (fun _ _ _ _ _ => (G_nm ND rfl (loc_of rfl) (fn_of rfl) (by decide))) (fun _ _ _ _ _ => T_nil) (fun _ _ _ _ _ => (I_call hcl (C "_law_pick" (by decide)) hr hg Mi.takes0 rfl T.g__law_pick T.k__law_pick (I_args hcl (I_var 0 rfl (vis_of rfl) rfl rfl) (I_args hcl (I_var 1 rfl (vis_of rfl) rfl rfl) I_args0 rfl) rfl) rfl rfl rfl)) (fun _ => rfl)) I_args0 rfl) rfl rfl rfl rfl rfl))
  S_nil)
theorem sc__law_table : FnScope ["_law_state", "_law_letters", "_law_most", "_law_many", "_law_rows", "_law_k", "_law_letter", "_law_one"] ["_law_state", "_law_letters", "_law_most"] (defScope st__law_table) := ⟨rfl, rfl, rfl, by decide +kernel, rfl, by decide +kernel, by decide +kernel⟩
theorem f__law_table {gh : List GF} (TA : ∀ gh, Tx w K mg gh) (CA : ∀ gh, Cals P w K mg base n gh) (TB : ∀ m : String, m ∈ mkN → LamX.TabB base mg (cOf K (gaS K m)) (pOf K (gaS K m))) (F : Fun K "_law_table" "_law_table" st__law_table f fd) : FnG P w K mg base (4 * n + 2 + 1 + 1 + 1 + 1) f fd ["_law_state", "_law_letters", "_law_most"] (spB K (CT K gh) (callN tab n) c__law_table) :=
  fnG_run F sc__law_table rfl rfl (callN_gro tab n) fun cdv A out s H E W hrL hg tk hp =>
  have hcl := callN_gro tab n; have hr0 := hrL.mono (Nat.le_trans (Nat.le_succ _) (Nat.le_succ _)); have hr := hr0.mono (Nat.le_succ _); have hu := u65 hr; have hu1 := u1 hr; have T := TA gh; have CK := CA gh; have hI := T.hI; have ND := sc__law_table.nd; have C := CK.c
  (S_cons hcl (S_set (i := 3) hcl ND rfl (loc_of rfl) (I_bop (o := .add) rfl hcl I_int (I_call hcl (C "_law_draw" (by decide)) hr hg tk rfl T.g__law_draw T.k__law_draw (I_args hcl (I_var 0 rfl (vis_of rfl) rfl rfl) (I_args hcl (I_var 2 rfl (vis_of rfl) rfl rfl) I_args0 rfl) rfl) rfl rfl rfl)) rfl (fn_of rfl))
  (S_cons hcl (S_setLc (i := 4) (own := [(SO "_law_k", 5)]) rfl hcl rfl ND (P_rng1 hcl rfl T.n_range (I_args hcl (I_var 3 rfl (vis_of rfl) rfl rfl) I_args0 rfl) rfl) (blkOk_by rfl) (fun _ _ _ _ _ => (G_nm ND rfl (loc_of rfl) (fn_of rfl) (by decide))) (fun _ _ _ _ _ => T_nil) (fun _ _ _ _ _ => (I_lc (own := [(SO "_law_letter", 6)]) rfl hcl rfl ND (P_val hcl (I_var 1 rfl (vis_of rfl) rfl rfl)) (blkOk_by rfl) (fun _ _ _ _ _ => (G_nm ND rfl (loc_of rfl) (fn_of rfl) (by decide))) (fun _ _ _ _ _ => T_nil) (fun _ _ _ _ _ => (I_call hcl (C "_law_draw" (by decide)) hr hg Mi.takes0 rfl T.g__law_draw T.k__law_draw (I_args hcl (I_var 0 rfl (vis_of rfl) rfl rfl) (I_args hcl (I_var 3 rfl (vis_of rfl) rfl rfl) I_args0 rfl) rfl) rfl rfl rfl)) (fun _ => rfl))) (fun _ => rfl) rfl rfl rfl)
  (S_cons hcl (S_ret hcl (I_tup hcl (I_args hcl (I_var 4 rfl (vis_of rfl) rfl rfl) (I_args hcl (I_lc (own := [(SO "_law_one", 7)]) rfl hcl rfl ND (P_rng1 hcl rfl T.n_range (I_args hcl (I_var 3 rfl (vis_of rfl) rfl rfl) I_args0 rfl) rfl) (blkOk_by rfl) (fun _ _ _ _ _ => (G_nm ND rfl (loc_of rfl) (fn_of rfl) (by decide))) (fun _ _ _ _ _ => (T_one (I_tcmp (o := .eq) rfl hu hcl (I_call hcl (C "_law_draw" (by decide)) hr hg Mi.takes0 rfl T.g__law_draw T.k__law_draw (I_args hcl (I_var 0 rfl (vis_of rfl) rfl rfl) (I_args hcl I_int I_args0 rfl) rfl) rfl rfl rfl) I_int rfl))) (fun _ _ _ _ _ => (I_var 7 rfl (vis_of rfl) rfl rfl)) (fun _ => rfl)) I_args0 rfl) rfl)))
  S_nil)))
theorem sc__law_run : FnScope ["_law_letters", "_law_rows", "_law_text", "_law_place", "_law_letter"] ["_law_letters", "_law_rows", "_law_text"] (defScope st__law_run) := ⟨rfl, rfl, rfl, by decide +kernel, rfl, by decide +kernel, by decide +kernel⟩
theorem f__law_run {gh : List GF} (TA : ∀ gh, Tx w K mg gh) (CA : ∀ gh, Cals P w K mg base n gh) (TB : ∀ m : String, m ∈ mkN → LamX.TabB base mg (cOf K (gaS K m)) (pOf K (gaS K m))) (F : Fun K "_law_run" "_law_run" st__law_run f fd) : FnG P w K mg base (4 * n + 2 + 1 + 1 + 1 + 1) f fd ["_law_letters", "_law_rows", "_law_text"] (spB K (CT K gh) (callN tab n) c__law_run) :=
  fnG_run F sc__law_run rfl rfl (callN_gro tab n) fun cdv A out s H E W hrL hg tk hp =>
  have hcl := callN_gro tab n; have hr0 := hrL.mono (Nat.le_trans (Nat.le_succ _) (Nat.le_succ _)); have hr := hr0.mono (Nat.le_succ _); have hu := u65 hr; have hu1 := u1 hr; have T := TA gh; have CK := CA gh; have hI := T.hI; have ND := sc__law_run.nd; have C := CK.c
  (S_cons hcl (S_set (i := 3) hcl ND rfl (loc_of rfl) I_int rfl (fn_of rfl))
  (S_cons hcl (S_for (vv := [4]) hcl hp rfl (P_val hcl (I_var 2 rfl (vis_of rfl) rfl rfl)) (G_nm ND rfl (loc_of rfl) (fn_of rfl) (by decide)) (S_cons hcl (S_set (i := 3) hcl ND rfl (loc_of rfl) (I_idx hu1 hcl (I_idx hu1 hcl (I_var 1 rfl (vis_of rfl) rfl rfl) (I_var 3 rfl (vis_of rfl) rfl rfl) fun _ _ => rfl) (I_mth hcl PySem.F.plainAttrs_str PySem.F.slot_str_index PySem.F.type_str_index mt_sindex_b (tyM_str fun _ _ => rfl) (I_var 0 rfl (vis_of rfl) rfl rfl) (I_args hcl (I_var 4 rfl (vis_of rfl) rfl rfl) I_args0 rfl) rfl rfl rfl rfl rfl) fun _ _ => rfl) rfl (fn_of rfl))
  S_nil) fun _ => rfl)
  (S_cons hcl (S_ret hcl (I_var 3 rfl (vis_of rfl) rfl rfl))
  S_nil)))
theorem sc__law_from : FnScope ["_law_letters", "_law_rows", "_law_place", "_law_text", "_law_letter"] ["_law_letters", "_law_rows", "_law_place", "_law_text"] (defScope st__law_from) := ⟨rfl, rfl, rfl, by decide +kernel, rfl, by decide +kernel, by decide +kernel⟩
theorem f__law_from {gh : List GF} (TA : ∀ gh, Tx w K mg gh) (CA : ∀ gh, Cals P w K mg base n gh) (TB : ∀ m : String, m ∈ mkN → LamX.TabB base mg (cOf K (gaS K m)) (pOf K (gaS K m))) (F : Fun K "_law_from" "_law_from" st__law_from f fd) : FnG P w K mg base (4 * n + 2 + 1 + 1 + 1 + 1) f fd ["_law_letters", "_law_rows", "_law_place", "_law_text"] (spB K (CT K gh) (callN tab n) c__law_from) :=
  fnG_run F sc__law_from rfl rfl (callN_gro tab n) fun cdv A out s H E W hrL hg tk hp =>
  have hcl := callN_gro tab n; have hr0 := hrL.mono (Nat.le_trans (Nat.le_succ _) (Nat.le_succ _)); have hr := hr0.mono (Nat.le_succ _); have hu := u65 hr; have hu1 := u1 hr; have T := TA gh; have CK := CA gh; have hI := T.hI; have ND := sc__law_from.nd; have C := CK.c
  (S_cons hcl (S_for (vv := [4]) hcl hp rfl (P_val hcl (I_var 3 rfl (vis_of rfl) rfl rfl)) (G_nm ND rfl (loc_of rfl) (fn_of rfl) (by decide)) (S_cons hcl (S_set (i := 2) hcl ND rfl (loc_of rfl) (I_idx hu1 hcl (I_idx hu1 hcl (I_var 1 rfl (vis_of rfl) rfl rfl) (I_var 2 rfl (vis_of rfl) rfl rfl) fun _ _ => rfl) (I_mth hcl PySem.F.plainAttrs_str PySem.F.slot_str_index PySem.F.type_str_index mt_sindex_b (tyM_str fun _ _ => rfl) (I_var 0 rfl (vis_of rfl) rfl rfl) (I_args hcl (I_var 4 rfl (vis_of rfl) rfl rfl) I_args0 rfl) rfl rfl rfl rfl rfl) fun _ _ => rfl) rfl (fn_of rfl))
  S_nil) fun _ => rfl)
  (S_cons hcl (S_ret hcl (I_var 2 rfl (vis_of rfl) rfl rfl))
  S_nil))
theorem sc__law_told : FnScope ["_law_work", "_law_caught", "e"] ["_law_work"] (defScope st__law_told) := ⟨rfl, rfl, rfl, by decide +kernel, rfl, by decide +kernel, by decide +kernel⟩
theorem t__law_told {gh : List GF} (TA : ∀ gh, Tx w K mg gh) (CA : ∀ gh, Cals P w K mg base n gh) (F : Fun K "_law_told" "_law_told" st__law_told (gaS K "_law_told") fd) (B : L2.Binds K fd ["_law_work"] []) : LCal P w K mg base (CT K gh) (callN tab (n + 1)) (4 * n + 2 + 1 + 1) "_law_told" (SO "_law_told") st__law_told (gaS K "_law_told") ["_law_work", "_law_caught", "e"] "_law_work" :=
  lcal_run (d := c__law_told) F B sc__law_told rfl rfl rfl (vis_of rfl) (callN_gro tab n) (fun _ _ _ => rfl) fun cdv A out s H E W n0 kb hr0 hg tk hp hwk =>
  have hcl := clL_gro (callN_gro tab n) n0 kb; have hr := hr0.mono (Nat.le_succ _); have hu := u65 hr; have hu1 := u1 hr; have T := TA gh; have CK := CA gh; have hI := T.hI; have ND := sc__law_told.nd; have C := CK.c
  (S_cons hcl (S_set (i := 1) hcl ND rfl (loc_of rfl) I_non rfl (fn_of rfl))
  (S_cons hcl (S_tryA (ks := ["AskError", "BadLetters", "BadText", "BadMachine", "TooMany", "BadNumber"]) (i := 2) hcl rfl rfl ND rfl rfl ⟨rfl, rfl, .inl T.x_AskError⟩ tk T.m_AskError (fun W pn xe tk hp => (S_cons hcl (S_ex hcl (hwk _ _ _ tk _ _) rfl)
  S_nil)) fun a pn => (S_cons hcl (S_set (i := 1) hcl ND rfl (loc_of rfl) (I_var 2 rfl (vis_of rfl) rfl rfl) rfl (fn_of rfl))
  S_nil))
  (S_cons hcl (S_ret hcl (I_ite hcl (I_tst hcl (I_isi hcl hI T.hE rfl T.n_isinstance rfl (I_var 1 rfl (vis_of rfl) rfl rfl) (I_own rfl T.x_BadText rfl) (.own _) T.ty_BadText rfl rfl rfl) fun _ => rfl) (I_str (by decide +kernel)) (I_ite hcl (I_tst hcl (I_isi hcl hI T.hE rfl T.n_isinstance rfl (I_var 1 rfl (vis_of rfl) rfl rfl) (I_own rfl T.x_BadNumber rfl) (.own _) T.ty_BadNumber rfl rfl rfl) fun _ => rfl) (I_str (by decide +kernel)) (I_str (by decide +kernel)))))
  S_nil)))
theorem sc__law_refused : FnScope ["_law_state", "_law_made", "_law_letters", "_law_bad", "_law_odd"] ["_law_state", "_law_made", "_law_letters"] (defScope st__law_refused) := ⟨rfl, rfl, rfl, by decide +kernel, rfl, by decide +kernel, by decide +kernel⟩
theorem f__law_refused {gh : List GF} (TA : ∀ gh, Tx w K mg gh) (CA : ∀ gh, Cals P w K mg base n gh) (TB : ∀ m : String, m ∈ mkN → LamX.TabB base mg (cOf K (gaS K m)) (pOf K (gaS K m))) (F : Fun K "_law_refused" "_law_refused" st__law_refused (gaS K "_law_refused") fd) : FnG P w K mg base (4 * n + 2 + 1 + 1 + 1 + 1) (gaS K "_law_refused") fd ["_law_state", "_law_made", "_law_letters"] (spB K (CT K gh) (callN tab n) c__law_refused) :=
  fnG_runL F sc__law_refused rfl rfl (callN_gro tab n) fun cdv A out s H E W hc hrL hg tk hp =>
  have hcl := callN_gro tab n; have hr0 := hrL.mono (Nat.le_trans (Nat.le_succ _) (Nat.le_succ _)); have hr := hr0.mono (Nat.le_succ _); have hu := u65 hr; have hu1 := u1 hr; have T := TA gh; have CK := CA gh; have hI := T.hI; have ND := sc__law_refused.nd; have C := CK.c
  (S_cons hcl (S_set (i := 3) hcl ND rfl (loc_of rfl) (I_call hcl (C "_law_pick" (by decide)) hr hg tk rfl T.g__law_pick T.k__law_pick (I_args hcl (I_var 0 rfl (vis_of rfl) rfl rfl) (I_args hcl (I_lst hcl (I_args hcl I_non (I_args hcl I_int (I_args hcl (I_lst hcl (I_args hcl (I_str (by decide +kernel)) I_args0 rfl)) (I_args hcl (I_tup hcl (I_args hcl (I_str (by decide +kernel)) I_args0 rfl)) (I_args hcl (I_bop (o := .add) rfl hcl (I_var 2 rfl (vis_of rfl) rfl rfl) (I_str (by decide +kernel))) (I_args hcl (I_str (by decide +kernel)) (I_args hcl (I_str (by decide +kernel)) (I_args hcl (I_str (by decide +kernel)) (I_args hcl I_dct0 (I_args hcl I_bl (I_args hcl (I_bop (o := .add) rfl hcl (I_var 2 rfl (vis_of rfl) rfl rfl) (I_str (by decide +kernel))) (I_args hcl (I_var 1 rfl (vis_of rfl) rfl rfl) I_args0 rfl) rfl) rfl) rfl) rfl) rfl) rfl) rfl) rfl) rfl) rfl) rfl)) I_args0 rfl) rfl) rfl rfl rfl) rfl (fn_of rfl))
  (S_cons hcl (S_set (i := 4) hcl ND rfl (loc_of rfl) (I_call hcl (C "_law_pick" (by decide)) hr hg tk rfl T.g__law_pick T.k__law_pick (I_args hcl (I_var 0 rfl (vis_of rfl) rfl rfl) (I_args hcl (I_lst hcl (I_args hcl (I_neg hcl I_int) (I_args hcl (I_ln hcl (mto_cons T.cls_Machine T.mt_Machine____len__ CK.m_Machine____len__ mto_nil) hr0 hg tk rfl T.n_len (I_var 1 rfl (vis_of rfl) rfl rfl) rfl) (I_args hcl I_bl (I_args hcl I_bl (I_args hcl I_non (I_args hcl (I_str (by decide +kernel)) (I_args hcl (I_lst hcl (I_args hcl I_int I_args0 rfl)) (I_args hcl (I_bop (o := .pow) rfl hcl I_int I_int) I_args0 rfl) rfl) rfl) rfl) rfl) rfl) rfl) rfl)) I_args0 rfl) rfl) rfl rfl rfl) rfl (fn_of rfl))
  (S_cons hcl (S_if hcl (I_tw (I_wor hcl (I_tinn (neg := false) rfl hu hcl (mto_cons T.cls_Machine T.mt_Machine____contains__ CK.m_Machine____contains__ mto_nil) hr hg tk (I_var 3 rfl (vis_of rfl) rfl rfl) (I_var 1 rfl (vis_of rfl) rfl rfl) rfl) (I_wor1 (I_tcmp (o := .ne) rfl hu hcl (I_lam hcl CK.t__law_told hrL hg tk rfl T.g__law_told T.k__law_told (TB "_law_refused" (by decide)) (hc.trans (mkB_c T.mkb__law_refused)) (List.Mem.head _) (tbs_hu (l := (CT K gh).tbs) T.tnd (List.Mem.head _)) (LamX.lamS_by rfl) rfl (fun _ _ _ _ _ => rfl) (fun y A outer s H E f' c' hr0 hg => have T := TA (y :: gh); have CK := CA (y :: gh); have C := CK.c; have hI := T.hI; have hr := hr0.mono (Nat.le_succ _); have hu := u65 hr; have hu1 := u1 hr; have tk := takes_of rfl rfl rfl rfl; (I_mto rfl hcl (mto_cons T.cls_Machine T.mt_Machine__end CK.m_Machine__end mto_nil) hr hg tk (I_var 1 rfl (vis_of rfl) rfl rfl) (I_args hcl (I_var 3 rfl (vis_of rfl) rfl rfl) I_args0 rfl) rfl rfl rfl)) rfl rfl rfl) (I_str (by decide +kernel)) rfl)))) (S_cons hcl (S_ret hcl I_bl)
  S_nil) S_nil)
  (S_cons hcl (S_if hcl (I_tcmp (o := .ne) rfl hu hcl (I_lam hcl CK.t__law_told hrL hg tk rfl T.g__law_told T.k__law_told (TB "_law_refused" (by decide)) (hc.trans (mkB_c T.mkb__law_refused)) (List.Mem.head _) (tbs_hu (l := (CT K gh).tbs) T.tnd (List.Mem.head _)) (LamX.lamS_by rfl) rfl (fun _ _ _ _ _ => rfl) (fun y A outer s H E f' c' hr0 hg => have T := TA (y :: gh); have CK := CA (y :: gh); have C := CK.c; have hI := T.hI; have hr := hr0.mono (Nat.le_succ _); have hu := u65 hr; have hu1 := u1 hr; have tk := takes_of rfl rfl rfl rfl; (I_ocall hcl (mto_cons T.cls_Machine T.mt_Machine____call__ CK.m_Machine____call__ mto_nil) (fn_one T.mt_Machine____call__ T.fnc_Machine) hr hg tk rfl (vis_of rfl) rfl rfl rfl (I_args hcl I_int (I_args hcl (I_var 3 rfl (vis_of rfl) rfl rfl) I_args0 rfl) rfl) rfl rfl)) rfl rfl rfl) (I_str (by decide +kernel)) rfl) (S_cons hcl (S_ret hcl I_bl)
  S_nil) S_nil)
  (S_cons hcl (S_if hcl (I_tcmp (o := .ne) rfl hu hcl (I_lam hcl CK.t__law_told hrL hg tk rfl T.g__law_told T.k__law_told (TB "_law_refused" (by decide)) (hc.trans (mkB_c T.mkb__law_refused)) (List.Mem.head _) (tbs_hu (l := (CT K gh).tbs) T.tnd (List.Mem.head _)) (LamX.lamS_by rfl) rfl (fun _ _ _ _ _ => rfl) (fun y A outer s H E f' c' hr0 hg => have T := TA (y :: gh); have CK := CA (y :: gh); have C := CK.c; have hI := T.hI; have hr := hr0.mono (Nat.le_succ _); have hu := u65 hr; have hu1 := u1 hr; have tk := takes_of rfl rfl rfl rfl; (I_ocall hcl (mto_cons T.cls_Machine T.mt_Machine____call__ CK.m_Machine____call__ mto_nil) (fn_one T.mt_Machine____call__ T.fnc_Machine) hr hg tk rfl (vis_of rfl) rfl rfl rfl (I_args hcl (I_var 4 rfl (vis_of rfl) rfl rfl) (I_args hcl (I_str (by decide +kernel)) I_args0 rfl) rfl) rfl rfl)) rfl rfl rfl) (I_str (by decide +kernel)) rfl) (S_cons hcl (S_ret hcl I_bl)
  S_nil) S_nil)
  (S_cons hcl (S_ret hcl (I_cmp (o := .eq) rfl hu hcl (I_lam hcl CK.t__law_told hrL hg tk rfl T.g__law_told T.k__law_told (TB "_law_refused" (by decide)) (hc.trans (mkB_c T.mkb__law_refused)) (List.Mem.head _) (tbs_hu (l := (CT K gh).tbs) T.tnd (List.Mem.head _)) (LamX.lamS_by rfl) rfl (fun _ _ _ _ _ => rfl) (fun y A outer s H E f' c' hr0 hg => have T := TA (y :: gh); have CK := CA (y :: gh); have C := CK.c; have hI := T.hI; have hr := hr0.mono (Nat.le_succ _); have hu := u65 hr; have hu1 := u1 hr; have tk := takes_of rfl rfl rfl rfl; (I_ocall hcl (mto_cons T.cls_Machine T.mt_Machine____call__ CK.m_Machine____call__ mto_nil) (fn_one T.mt_Machine____call__ T.fnc_Machine) hr hg tk rfl (vis_of rfl) rfl rfl rfl (I_args hcl (I_var 4 rfl (vis_of rfl) rfl rfl) (I_args hcl (I_var 3 rfl (vis_of rfl) rfl rfl) I_args0 rfl) rfl) rfl rfl)) rfl rfl rfl) (I_str (by decide +kernel)) rfl))
  S_nil))))))
theorem sc_law : FnScope ["_law_script", "_law_turn", "_law_cell", "_law_state", "_law_letters", "_law_made", "_law_k", "_law_text", "_law_rows", "_law_marked", "_law_place", "_law_first", "_law_due"] ["_law_script"] (defScope st_law) := ⟨rfl, rfl, rfl, by decide +kernel, rfl, by decide +kernel, by decide +kernel⟩
theorem f_law {gh : List GF} (TA : ∀ gh, Tx w K mg gh) (CA : ∀ gh, Cals P w K mg base n gh) (TB : ∀ m : String, m ∈ mkN → LamX.TabB base mg (cOf K (gaS K m)) (pOf K (gaS K m))) (F : Fun K "law" "law" st_law f fd) : FnG P w K mg base (4 * n + 2 + 1 + 1 + 1 + 1) f fd ["_law_script"] (spB K (CT K gh) (callN tab n) c_law) :=
  fnG_run F sc_law rfl rfl (callN_gro tab n) fun cdv A out s H E W hrL hg tk hp =>
  have hcl := callN_gro tab n; have hr0 := hrL.mono (Nat.le_trans (Nat.le_succ _) (Nat.le_succ _)); have hr := hr0.mono (Nat.le_succ _); have hu := u65 hr; have hu1 := u1 hr; have T := TA gh; have CK := CA gh; have hI := T.hI; have ND := sc_law.nd; have C := CK.c
  (S_cons hcl (S_for (vv := [1, 2]) hcl hp rfl (P_enum hcl rfl T.n_enumerate (I_args hcl (I_slc hcl (I_or hcl (I_var 0 rfl (vis_of rfl) rfl rfl) (I_one (I_lst hcl (I_args hcl I_int I_args0 rfl)))) I_part0 (I_part hcl I_int)) I_args0 rfl) rfl) (G_tup rfl (Gs_cons (G_nm ND rfl (loc_of rfl) (fn_of rfl) (by decide)) (Gs_cons (G_nm ND rfl (loc_of rfl) (fn_of rfl) (by decide)) Gs_nil rfl) rfl) rfl rfl rfl) (S_cons hcl (S_set (i := 3) hcl ND rfl (loc_of rfl) (I_call hcl (C "_law_begin" (by decide)) hr hg tk rfl T.g__law_begin T.k__law_begin (I_args hcl (I_var 2 rfl (vis_of rfl) rfl rfl) (I_args hcl (I_var 1 rfl (vis_of rfl) rfl rfl) I_args0 rfl) rfl) rfl rfl rfl) rfl (fn_of rfl))
  (S_cons hcl (S_set (i := 4) hcl ND rfl (loc_of rfl) (I_call hcl (C "_law_alphabet" (by decide)) hr hg tk rfl T.g__law_alphabet T.k__law_alphabet (I_args hcl (I_var 3 rfl (vis_of rfl) rfl rfl) I_args0 rfl) rfl rfl rfl) rfl (fn_of rfl))
  (S_cons hcl (S_asg (vv := [8, 9]) hcl (I_call hcl (C "_law_table" (by decide)) hr hg tk rfl T.g__law_table T.k__law_table (I_args hcl (I_var 3 rfl (vis_of rfl) rfl rfl) (I_args hcl (I_var 4 rfl (vis_of rfl) rfl rfl) (I_args hcl I_int I_args0 rfl) rfl) rfl) rfl rfl rfl) (G_tup rfl (Gs_cons (G_nm ND rfl (loc_of rfl) (fn_of rfl) (by decide)) (Gs_cons (G_nm ND rfl (loc_of rfl) (fn_of rfl) (by decide)) Gs_nil rfl) rfl) rfl rfl rfl) rfl rfl rfl)
  (S_cons hcl (S_set (i := 5) hcl ND rfl (loc_of rfl) (I_new hcl T.mk_Machine CK.m_Machine____init__ T.ic_Machine hr0 hg tk rfl T.x_Machine (I_args hcl (I_var 4 rfl (vis_of rfl) rfl rfl) (I_args hcl (I_var 8 rfl (vis_of rfl) rfl rfl) (I_args hcl (I_var 9 rfl (vis_of rfl) rfl rfl) I_args0 rfl) rfl) rfl) rfl rfl rfl) rfl (fn_of rfl))
  (S_cons hcl (S_for (vv := [6]) hcl hp rfl (P_rng1 hcl rfl T.n_range (I_args hcl I_int I_args0 rfl) rfl) (G_nm ND rfl (loc_of rfl) (fn_of rfl) (by decide)) (S_cons hcl (S_set (i := 7) hcl ND rfl (loc_of rfl) (I_call hcl (C "_law_word" (by decide)) hr hg tk rfl T.g__law_word T.k__law_word (I_args hcl (I_var 3 rfl (vis_of rfl) rfl rfl) (I_args hcl (I_var 4 rfl (vis_of rfl) rfl rfl) (I_args hcl I_int I_args0 rfl) rfl) rfl) rfl rfl rfl) rfl (fn_of rfl))
  (S_cons hcl (S_set (i := 10) hcl ND rfl (loc_of rfl) (I_call hcl (C "_law_run" (by decide)) hr hg tk rfl T.g__law_run T.k__law_run (I_args hcl (I_var 4 rfl (vis_of rfl) rfl rfl) (I_args hcl (I_var 8 rfl (vis_of rfl) rfl rfl) (I_args hcl (I_var 7 rfl (vis_of rfl) rfl rfl) I_args0 rfl) rfl) rfl) rfl rfl rfl) rfl (fn_of rfl))
  (S_cons hcl (S_if hcl (I_tw (I_wor hcl (I_tcmp (o := .ne) rfl hu hcl (I_mto rfl hcl (mto_cons T.cls_Machine T.mt_Machine__end CK.m_Machine__end mto_nil) hr hg tk (I_var 5 rfl (vis_of rfl) rfl rfl) (I_args hcl (I_var 7 rfl (vis_of rfl) rfl rfl) I_args0 rfl) rfl rfl rfl) (I_var 10 rfl (vis_of rfl) rfl rfl) rfl) (I_wor1 (I_tcmp (o := .ne) rfl hu hcl (I_inn (neg := false) rfl hu hcl (mto_cons T.cls_Machine T.mt_Machine____contains__ CK.m_Machine____contains__ mto_nil) hr hg tk (I_var 7 rfl (vis_of rfl) rfl rfl) (I_var 5 rfl (vis_of rfl) rfl rfl) rfl) (I_cmp (o := .isin) rfl hu hcl (I_var 10 rfl (vis_of rfl) rfl rfl) (I_var 9 rfl (vis_of rfl) rfl rfl) rfl) rfl)))) (S_cons hcl (S_ret hcl I_bl)
  S_nil) S_nil)
  (S_cons hcl (S_set (i := 11) hcl ND rfl (loc_of rfl) (I_call hcl (C "_law_draw" (by decide)) hr hg tk rfl T.g__law_draw T.k__law_draw (I_args hcl (I_var 3 rfl (vis_of rfl) rfl rfl) (I_args hcl (I_bltB hcl call_len_b rfl T.n_len rfl (I_args hcl (I_var 8 rfl (vis_of rfl) rfl rfl) I_args0 rfl) (by decide) rfl rfl rfl) I_args0 rfl) rfl) rfl rfl rfl) rfl (fn_of rfl))
  (S_cons hcl (S_set (i := 12) hcl ND rfl (loc_of rfl) (I_call hcl (C "_law_from" (by decide)) hr hg tk rfl T.g__law_from T.k__law_from (I_args hcl (I_var 4 rfl (vis_of rfl) rfl rfl) (I_args hcl (I_var 8 rfl (vis_of rfl) rfl rfl) (I_args hcl (I_var 11 rfl (vis_of rfl) rfl rfl) (I_args hcl (I_var 7 rfl (vis_of rfl) rfl rfl) I_args0 rfl) rfl) rfl) rfl) rfl rfl rfl) rfl (fn_of rfl))
  (S_cons hcl (S_if hcl (I_tcmp (o := .ne) rfl hu hcl (I_ocall hcl (mto_cons T.cls_Machine T.mt_Machine____call__ CK.m_Machine____call__ mto_nil) (fn_one T.mt_Machine____call__ T.fnc_Machine) hr hg tk rfl (vis_of rfl) rfl rfl rfl (I_args hcl (I_var 11 rfl (vis_of rfl) rfl rfl) (I_args hcl (I_var 7 rfl (vis_of rfl) rfl rfl) I_args0 rfl) rfl) rfl rfl) (I_var 12 rfl (vis_of rfl) rfl rfl) rfl) (S_cons hcl (S_ret hcl I_bl)
  S_nil) S_nil)
  S_nil)))))) fun _ => rfl)
  (S_cons hcl (S_if hcl (I_tnot hcl (I_tst hcl (I_call hcl (C "_law_refused" (by decide)) hr hg tk rfl T.g__law_refused T.k__law_refused (I_args hcl (I_var 3 rfl (vis_of rfl) rfl rfl) (I_args hcl (I_var 5 rfl (vis_of rfl) rfl rfl) (I_args hcl (I_var 4 rfl (vis_of rfl) rfl rfl) I_args0 rfl) rfl) rfl) rfl rfl rfl) fun _ => rfl)) (S_cons hcl (S_ret hcl I_bl)
  S_nil) S_nil)
  (S_cons hcl (S_set (i := 7) hcl ND rfl (loc_of rfl) (I_bop (o := .mul) rfl hcl (I_call hcl (C "_law_word" (by decide)) hr hg tk rfl T.g__law_word T.k__law_word (I_args hcl (I_var 3 rfl (vis_of rfl) rfl rfl) (I_args hcl (I_var 4 rfl (vis_of rfl) rfl rfl) (I_args hcl I_int I_args0 rfl) rfl) rfl) rfl rfl rfl) I_int) rfl (fn_of rfl))
  (S_cons hcl (S_if hcl (I_tcmp (o := .ne) rfl hu hcl (I_mto rfl hcl (mto_cons T.cls_Machine T.mt_Machine__end CK.m_Machine__end mto_nil) hr hg tk (I_var 5 rfl (vis_of rfl) rfl rfl) (I_args hcl (I_slc hcl (I_var 7 rfl (vis_of rfl) rfl rfl) I_part0 (I_part hcl I_int)) I_args0 rfl) rfl rfl rfl) (I_call hcl (C "_law_run" (by decide)) hr hg tk rfl T.g__law_run T.k__law_run (I_args hcl (I_var 4 rfl (vis_of rfl) rfl rfl) (I_args hcl (I_var 8 rfl (vis_of rfl) rfl rfl) (I_args hcl (I_slc hcl (I_var 7 rfl (vis_of rfl) rfl rfl) I_part0 (I_part hcl I_int)) I_args0 rfl) rfl) rfl) rfl rfl rfl) rfl) (S_cons hcl (S_ret hcl I_bl)
  S_nil) S_nil)
  S_nil)))))))) fun _ => rfl)
  (S_cons hcl (S_ret hcl I_bl)
  S_nil))
abbrev si_BadMachine : Stmt := inCls (top 5) 0
theorem sci_BadMachine : FnScope ["self", "index"] ["self", "index"] (defScope si_BadMachine) := ⟨rfl, rfl, rfl, by decide +kernel, rfl, by decide +kernel, by decide +kernel⟩
theorem i_BadMachine {gh : List GF} (T : Tx w K mg gh) (F : Fun K "__init__" "BadMachine.__init__" si_BadMachine f fd) : FnOk P w K mg base CX0 1 f fd ["self", "index"] (spInit K (gaS K "BadMachine") (SO "index")) :=
  F.ok sci_BadMachine (fun _ _ _ _ h => init_len h) fun cdv A out s H vs Q E hr h => ⟨_, init_ps rfl T.x_AskError T.bas_AskError (pv 0) pe_str (pv 0) (pv 1) rfl rfl rfl rfl rfl rfl rfl, init_rd h T.low_BadMachine.ox T.low_BadMachine.no⟩
theorem mem_defs {M : String → Prop} (h0 : M "is_number") (h1 : M "is_alphabet") (h2 : M "need_letters") (h3 : M "is_text") (h4 : M "need_text") (h5 : M "is_row") (h6 : M "are_states") (h7 : M "place_of") (h8 : M "state_behind") (h9 : M "_law_begin") (h10 : M "_law_draw") (h11 : M "_law_pick") (h12 : M "_law_alphabet") (h13 : M "_law_word") (h14 : M "_law_table") (h15 : M "_law_run") (h16 : M "_law_from") (h17 : M "_law_refused") (h18 : M "law") : ∀ g, g ∈ defN → M g := by
  intro g hg
  repeat (first | (rcases List.mem_cons.mp hg with e | hg; (subst e; assumption)) | cases hg)
theorem cals (TA : ∀ gh, Tx w K mg gh) (TB : ∀ m : String, m ∈ mkN → LamX.TabB base mg (cOf K (gaS K m)) (pOf K (gaS K m))) {fd0 : FuncData} (F0 : Fun K "is_number" "is_number" st_is_number (gaS K "is_number") fd0) (B0 : L2.Binds K fd0 ["value", "low", "high"] []) {fd1 : FuncData} (F1 : Fun K "is_alphabet" "is_alphabet" st_is_alphabet (gaS K "is_alphabet") fd1) (B1 : L2.Binds K fd1 ["value"] []) {fd2 : FuncData} (F2 : Fun K "need_letters" "need_letters" st_need_letters (gaS K "need_letters") fd2) (B2 : L2.Binds K fd2 ["value"] []) {fd3 : FuncData} (F3 : Fun K "is_text" "is_text" st_is_text (gaS K "is_text") fd3) (B3 : L2.Binds K fd3 ["letters", "value"] []) {fd4 : FuncData} (F4 : Fun K "need_text" "need_text" st_need_text (gaS K "need_text") fd4) (B4 : L2.Binds K fd4 ["letters", "value"] []) {fd5 : FuncData} (F5 : Fun K "is_row" "is_row" st_is_row (gaS K "is_row") fd5) (B5 : L2.Binds K fd5 ["letters", "row", "many"] []) {fd6 : FuncData} (F6 : Fun K "are_states" "are_states" st_are_states (gaS K "are_states") fd6) (B6 : L2.Binds K fd6 ["value", "many"] []) {fd7 : FuncData} (F7 : Fun K "__init__" "Machine.__init__" st_Machine____init__ (He.ma K (gaS K "Machine") (SO "__init__")) fd7) (B7 : L2.Binds K fd7 ["self", "letters", "rows", "accepting"] []) {fd8 : FuncData} (F8 : Fun K "__len__" "Machine.__len__" st_Machine____len__ (He.ma K (gaS K "Machine") (SO "__len__")) fd8) (B8 : L2.Binds K fd8 ["self"] []) {fd9 : FuncData} (F9 : Fun K "end" "Machine.end" st_Machine__end (He.ma K (gaS K "Machine") (SO "end")) fd9) (B9 : L2.Binds K fd9 ["self", "text"] []) {fd10 : FuncData} (F10 : Fun K "__contains__" "Machine.__contains__" st_Machine____contains__ (He.ma K (gaS K "Machine") (SO "__contains__")) fd10) (B10 : L2.Binds K fd10 ["self", "text"] []) {fd11 : FuncData} (F11 : Fun K "__call__" "Machine.__call__" st_Machine____call__ (He.ma K (gaS K "Machine") (SO "__call__")) fd11) (B11 : L2.Binds K fd11 ["self", "state", "text"] []) {fd12 : FuncData} (F12 : Fun K "place_of" "place_of" st_place_of (gaS K "place_of") fd12) (B12 : L2.Binds K fd12 ["letters", "letter"] []) {fd13 : FuncData} (F13 : Fun K "state_behind" "state_behind" st_state_behind (gaS K "state_behind") fd13) (B13 : L2.Binds K fd13 ["letters", "rows", "state", "text"] []) {fd14 : FuncData} (F14 : Fun K "_law_begin" "_law_begin" st__law_begin (gaS K "_law_begin") fd14) (B14 : L2.Binds K fd14 ["_law_cell", "_law_turn"] []) {fd15 : FuncData} (F15 : Fun K "_law_draw" "_law_draw" st__law_draw (gaS K "_law_draw") fd15) (B15 : L2.Binds K fd15 ["_law_state", "_law_size"] []) {fd16 : FuncData} (F16 : Fun K "_law_pick" "_law_pick" st__law_pick (gaS K "_law_pick") fd16) (B16 : L2.Binds K fd16 ["_law_state", "_law_items"] []) {fd17 : FuncData} (F17 : Fun K "_law_alphabet" "_law_alphabet" st__law_alphabet (gaS K "_law_alphabet") fd17) (B17 : L2.Binds K fd17 ["_law_state"] []) {fd18 : FuncData} (F18 : Fun K "_law_word" "_law_word" st__law_word (gaS K "_law_word") fd18) (B18 : L2.Binds K fd18 ["_law_state", "_law_letters", "_law_most"] []) {fd19 : FuncData} (F19 : Fun K "_law_table" "_law_table" st__law_table (gaS K "_law_table") fd19) (B19 : L2.Binds K fd19 ["_law_state", "_law_letters", "_law_most"] []) {fd20 : FuncData} (F20 : Fun K "_law_run" "_law_run" st__law_run (gaS K "_law_run") fd20) (B20 : L2.Binds K fd20 ["_law_letters", "_law_rows", "_law_text"] []) {fd21 : FuncData} (F21 : Fun K "_law_from" "_law_from" st__law_from (gaS K "_law_from") fd21) (B21 : L2.Binds K fd21 ["_law_letters", "_law_rows", "_law_place", "_law_text"] []) {fd22 : FuncData} (F22 : Fun K "_law_told" "_law_told" st__law_told (gaS K "_law_told") fd22) (B22 : L2.Binds K fd22 ["_law_work"] []) {fd23 : FuncData} (F23 : Fun K "_law_refused" "_law_refused" st__law_refused (gaS K "_law_refused") fd23) (B23 : L2.Binds K fd23 ["_law_state", "_law_made", "_law_letters"] []) {fd24 : FuncData} (F24 : Fun K "law" "law" st_law (gaS K "law") fd24) (B24 : L2.Binds K fd24 ["_law_script"] []) (l_BadMachine : LowI P w K mg base "BadMachine" (Str.ofString "index") (gaS K "BadMachine"))  : ∀ (n : Nat) (gh : List GF), Cals P w K mg base n gh
  | 0 => fun gh => ⟨mem_defs (cal_zero B0) (cal_zero B1) (cal_zero B2) (cal_zero B3) (cal_zero B4) (cal_zero B5) (cal_zero B6) (cal_zero B12) (cal_zero B13) (cal_zero B14) (cal_zero B15) (cal_zero B16) (cal_zero B17) (cal_zero B18) (cal_zero B19) (cal_zero B20) (cal_zero B21) (cal_zero B23) (cal_zero B24), cal_zero B7, cal_zero B8, cal_zero B9, cal_zero B10, cal_zero B11, l_BadMachine, fun y => lcal_bad rfl (vis_of rfl) fun _ _ _ => rfl⟩
  | n + 1 => fun gh => by
    have C := cals TA TB F0 B0 F1 B1 F2 B2 F3 B3 F4 B4 F5 B5 F6 B6 F7 B7 F8 B8 F9 B9 F10 B10 F11 B11 F12 B12 F13 B13 F14 B14 F15 B15 F16 B16 F17 B17 F18 B18 F19 B19 F20 B20 F21 B21 F22 B22 F23 B23 F24 B24 l_BadMachine n
    exact ⟨mem_defs (cal_succ (d := c_is_number) rfl (f_is_number TA C TB F0) B0) (cal_succ (d := c_is_alphabet) rfl (f_is_alphabet TA C TB F1) B1) (cal_succ (d := c_need_letters) rfl (f_need_letters TA C TB F2) B2) (cal_succ (d := c_is_text) rfl (f_is_text TA C TB F3) B3) (cal_succ (d := c_need_text) rfl (f_need_text TA C TB F4) B4) (cal_succ (d := c_is_row) rfl (f_is_row TA C TB F5) B5) (cal_succ (d := c_are_states) rfl (f_are_states TA C TB F6) B6) (cal_succ (d := c_place_of) rfl (f_place_of TA C TB F12) B12) (cal_succ (d := c_state_behind) rfl (f_state_behind TA C TB F13) B13) (cal_succ (d := c__law_begin) rfl (f__law_begin TA C TB F14) B14) (cal_succ (d := c__law_draw) rfl (f__law_draw TA C TB F15) B15) (cal_succ (d := c__law_pick) rfl (f__law_pick TA C TB F16) B16) (cal_succ (d := c__law_alphabet) rfl (f__law_alphabet TA C TB F17) B17) (cal_succ (d := c__law_word) rfl (f__law_word TA C TB F18) B18) (cal_succ (d := c__law_table) rfl (f__law_table TA C TB F19) B19) (cal_succ (d := c__law_run) rfl (f__law_run TA C TB F20) B20) (cal_succ (d := c__law_from) rfl (f__law_from TA C TB F21) B21) (cal_succ (d := c__law_refused) rfl (f__law_refused TA C TB F23) B23) (cal_succ (d := c_law) rfl (f_law TA C TB F24) B24), cal_succ (d := c_Machine____init__) rfl (f_Machine____init__ TA C TB F7) B7, cal_succ (d := c_Machine____len__) rfl (f_Machine____len__ TA C TB F8) B8, cal_succ (d := c_Machine__end) rfl (f_Machine__end TA C TB F9) B9, cal_succ (d := c_Machine____contains__) rfl (f_Machine____contains__ TA C TB F10) B10, cal_succ (d := c_Machine____call__) rfl (f_Machine____call__ TA C TB F11) B11, l_BadMachine, fun y => (t__law_told (gh := y :: gh) TA C F22 B22).more (by omega)⟩
end
/-! ### the facts of the top -/
def dd_is_number : He.DefD := ⟨("is_number", none), "is_number", "is_number", defArgs st_is_number, defBody st_is_number, defScope st_is_number, [], []⟩
def dd_is_alphabet : He.DefD := ⟨("is_alphabet", none), "is_alphabet", "is_alphabet", defArgs st_is_alphabet, defBody st_is_alphabet, defScope st_is_alphabet, [], []⟩
def dd_need_letters : He.DefD := ⟨("need_letters", none), "need_letters", "need_letters", defArgs st_need_letters, defBody st_need_letters, defScope st_need_letters, [], []⟩
def dd_is_text : He.DefD := ⟨("is_text", none), "is_text", "is_text", defArgs st_is_text, defBody st_is_text, defScope st_is_text, [], []⟩
def dd_need_text : He.DefD := ⟨("need_text", none), "need_text", "need_text", defArgs st_need_text, defBody st_need_text, defScope st_need_text, [], []⟩
def dd_is_row : He.DefD := ⟨("is_row", none), "is_row", "is_row", defArgs st_is_row, defBody st_is_row, defScope st_is_row, [], []⟩
def dd_are_states : He.DefD := ⟨("are_states", none), "are_states", "are_states", defArgs st_are_states, defBody st_are_states, defScope st_are_states, [], []⟩
def dd_Machine____init__ : He.DefD := ⟨("Machine", some "__init__"), "__init__", "Machine.__init__", defArgs st_Machine____init__, defBody st_Machine____init__, defScope st_Machine____init__, [], []⟩
def dd_Machine____len__ : He.DefD := ⟨("Machine", some "__len__"), "__len__", "Machine.__len__", defArgs st_Machine____len__, defBody st_Machine____len__, defScope st_Machine____len__, [], []⟩
def dd_Machine__end : He.DefD := ⟨("Machine", some "end"), "end", "Machine.end", defArgs st_Machine__end, defBody st_Machine__end, defScope st_Machine__end, [], []⟩
def dd_Machine____contains__ : He.DefD := ⟨("Machine", some "__contains__"), "__contains__", "Machine.__contains__", defArgs st_Machine____contains__, defBody st_Machine____contains__, defScope st_Machine____contains__, [], []⟩
def dd_Machine____call__ : He.DefD := ⟨("Machine", some "__call__"), "__call__", "Machine.__call__", defArgs st_Machine____call__, defBody st_Machine____call__, defScope st_Machine____call__, [], []⟩
def dd_place_of : He.DefD := ⟨("place_of", none), "place_of", "place_of", defArgs st_place_of, defBody st_place_of, defScope st_place_of, [], []⟩
def dd_state_behind : He.DefD := ⟨("state_behind", none), "state_behind", "state_behind", defArgs st_state_behind, defBody st_state_behind, defScope st_state_behind, [], []⟩
def dd__law_begin : He.DefD := ⟨("_law_begin", none), "_law_begin", "_law_begin", defArgs st__law_begin, defBody st__law_begin, defScope st__law_begin, [], []⟩
def dd__law_draw : He.DefD := ⟨("_law_draw", none), "_law_draw", "_law_draw", defArgs st__law_draw, defBody st__law_draw, defScope st__law_draw, [], []⟩
def dd__law_pick : He.DefD := ⟨("_law_pick", none), "_law_pick", "_law_pick", defArgs st__law_pick, defBody st__law_pick, defScope st__law_pick, [], []⟩
def dd__law_alphabet : He.DefD := ⟨("_law_alphabet", none), "_law_alphabet", "_law_alphabet", defArgs st__law_alphabet, defBody st__law_alphabet, defScope st__law_alphabet, [], []⟩
def dd__law_word : He.DefD := ⟨("_law_word", none), "_law_word", "_law_word", defArgs st__law_word, defBody st__law_word, defScope st__law_word, [], []⟩
def dd__law_table : He.DefD := ⟨("_law_table", none), "_law_table", "_law_table", defArgs st__law_table, defBody st__law_table, defScope st__law_table, [], []⟩
def dd__law_run : He.DefD := ⟨("_law_run", none), "_law_run", "_law_run", defArgs st__law_run, defBody st__law_run, defScope st__law_run, [], []⟩
def dd__law_from : He.DefD := ⟨("_law_from", none), "_law_from", "_law_from", defArgs st__law_from, defBody st__law_from, defScope st__law_from, [], []⟩
def dd__law_told : He.DefD := ⟨("_law_told", none), "_law_told", "_law_told", defArgs st__law_told, defBody st__law_told, defScope st__law_told, [], []⟩
def dd__law_refused : He.DefD := ⟨("_law_refused", none), "_law_refused", "_law_refused", defArgs st__law_refused, defBody st__law_refused, defScope st__law_refused, [], []⟩
def dd_law : He.DefD := ⟨("law", none), "law", "law", defArgs st_law, defBody st_law, defScope st_law, [], []⟩
def ddi_BadMachine : He.DefD := ⟨("BadMachine", some "__init__"), "__init__", "BadMachine.__init__", defArgs si_BadMachine, defBody si_BadMachine, defScope si_BadMachine, [], []⟩
def dds : List He.DefD := [dd_is_number, dd_is_alphabet, dd_need_letters, dd_is_text, dd_need_text, dd_is_row, dd_are_states, dd_Machine____init__, dd_Machine____len__, dd_Machine__end, dd_Machine____contains__, dd_Machine____call__, dd_place_of, dd_state_behind, dd__law_begin, dd__law_draw, dd__law_pick, dd__law_alphabet, dd__law_word, dd__law_table, dd__law_run, dd__law_from, dd__law_told, dd__law_refused, dd_law, ddi_BadMachine]
def fas : List He.Fa := [.glo "is_number",
  .glo "is_alphabet",
  .glo "need_letters",
  .glo "is_text",
  .glo "need_text",
  .glo "is_row",
  .glo "are_states",
  .meth "Machine" "__init__",
  .meth "Machine" "__len__",
  .meth "Machine" "end",
  .meth "Machine" "__contains__",
  .meth "Machine" "__call__",
  .glo "place_of",
  .glo "state_behind",
  .glo "_law_begin",
  .glo "_law_draw",
  .glo "_law_pick",
  .glo "_law_alphabet",
  .glo "_law_word",
  .glo "_law_table",
  .glo "_law_run",
  .glo "_law_from",
  .glo "_law_told",
  .glo "_law_refused",
  .glo "law",
  .free "all",
  .free "bool",
  .free "enumerate",
  .free "int",
  .free "isinstance",
  .free "len",
  .free "list",
  .free "max",
  .free "range",
  .free "set",
  .free "sorted",
  .free "str",
  .free "tuple",
  .str "ALL_LETTERS" "abcd",
  .int "MOST_STATES" 40,
  .glo "AskError",
  .glo "BadLetters",
  .glo "BadMachine",
  .glo "BadNumber",
  .glo "BadText",
  .glo "Machine",
  .exc "BadLetters",
  .exc "BadNumber",
  .exc "BadText",
  .cls "Machine",
  .mkr "Machine"]
def tbs : List He.Tab := []
def xss : List (PySem.W.Frag → Bool) := [fun K => lowB K "BadMachine" "index",
  fun K => baseB K "AskError",
  fun K => exmB K excN "AskError" ["AskError", "BadLetters", "BadText", "BadMachine", "TooMany", "BadNumber"],
  fun K => tyTB K insN excN (.ref (gaS K "BadNumber")) ["BadNumber"],
  fun K => tyTB K insN excN (.ref (gaS K "BadText")) ["BadText"],
  fun K => tyTB K insN excN (.type "bool") ["bool"],
  fun K => tyTB K insN excN (.type "int") ["int", "bool"],
  fun K => tyTB K insN excN (.type "list") ["list"],
  fun K => tyTB K insN excN (.type "str") ["str"],
  fun K => tyTB K insN excN (.type "tuple") ["tuple"],
  fun K => excAllB K excN,
  fun K => sysB K,
  fun K => PySem.W.fnIn K (He.ma K (gaS K "Machine") (SO "__call__")),
  fun K => naAllB K insN "own_accepting",
  fun K => naAllB K insN "own_letters",
  fun K => naAllB K insN "own_rows",
  fun K => xfAllB K excN "own_accepting",
  fun K => xfAllB K excN "own_letters",
  fun K => xfAllB K excN "own_rows",
  fun K => insAllB K insN,
  fun K => mkB K (gaS K "_law_refused"),
  fun K => decide (mkN.map fun m => pOf K (gaS K m)).Nodup]
theorem facts {w : World} {K : PySem.W.Frag} {h : Heap} {mg : Str → Option Value} (X : K.In h) (G : h.Ns mainGlobals mg) (c : SaysM xss fas dds tbs w K) (gh : List GF) : Tx w K mg gh where
    g_is_number := He.glo_ok X G (c.kit.fact 0 (f := .glo "is_number") rfl)
    k_is_number := (c.kit.def_ 0 (d := dd_is_number) rfl).choose_spec.kp
    g_is_alphabet := He.glo_ok X G (c.kit.fact 1 (f := .glo "is_alphabet") rfl)
    k_is_alphabet := (c.kit.def_ 1 (d := dd_is_alphabet) rfl).choose_spec.kp
    g_need_letters := He.glo_ok X G (c.kit.fact 2 (f := .glo "need_letters") rfl)
    k_need_letters := (c.kit.def_ 2 (d := dd_need_letters) rfl).choose_spec.kp
    g_is_text := He.glo_ok X G (c.kit.fact 3 (f := .glo "is_text") rfl)
    k_is_text := (c.kit.def_ 3 (d := dd_is_text) rfl).choose_spec.kp
    g_need_text := He.glo_ok X G (c.kit.fact 4 (f := .glo "need_text") rfl)
    k_need_text := (c.kit.def_ 4 (d := dd_need_text) rfl).choose_spec.kp
    g_is_row := He.glo_ok X G (c.kit.fact 5 (f := .glo "is_row") rfl)
    k_is_row := (c.kit.def_ 5 (d := dd_is_row) rfl).choose_spec.kp
    g_are_states := He.glo_ok X G (c.kit.fact 6 (f := .glo "are_states") rfl)
    k_are_states := (c.kit.def_ 6 (d := dd_are_states) rfl).choose_spec.kp
    mt_Machine____init__ := He.meth_ok (c.kit.fact 7 (f := .meth "Machine" "__init__") rfl)
    mt_Machine____len__ := He.meth_ok (c.kit.fact 8 (f := .meth "Machine" "__len__") rfl)
    mt_Machine__end := He.meth_ok (c.kit.fact 9 (f := .meth "Machine" "end") rfl)
    mt_Machine____contains__ := He.meth_ok (c.kit.fact 10 (f := .meth "Machine" "__contains__") rfl)
    mt_Machine____call__ := He.meth_ok (c.kit.fact 11 (f := .meth "Machine" "__call__") rfl)
    g_place_of := He.glo_ok X G (c.kit.fact 12 (f := .glo "place_of") rfl)
    k_place_of := (c.kit.def_ 12 (d := dd_place_of) rfl).choose_spec.kp
    g_state_behind := He.glo_ok X G (c.kit.fact 13 (f := .glo "state_behind") rfl)
    k_state_behind := (c.kit.def_ 13 (d := dd_state_behind) rfl).choose_spec.kp
    g__law_begin := He.glo_ok X G (c.kit.fact 14 (f := .glo "_law_begin") rfl)
    k__law_begin := (c.kit.def_ 14 (d := dd__law_begin) rfl).choose_spec.kp
    g__law_draw := He.glo_ok X G (c.kit.fact 15 (f := .glo "_law_draw") rfl)
    k__law_draw := (c.kit.def_ 15 (d := dd__law_draw) rfl).choose_spec.kp
    g__law_pick := He.glo_ok X G (c.kit.fact 16 (f := .glo "_law_pick") rfl)
    k__law_pick := (c.kit.def_ 16 (d := dd__law_pick) rfl).choose_spec.kp
    g__law_alphabet := He.glo_ok X G (c.kit.fact 17 (f := .glo "_law_alphabet") rfl)
    k__law_alphabet := (c.kit.def_ 17 (d := dd__law_alphabet) rfl).choose_spec.kp
    g__law_word := He.glo_ok X G (c.kit.fact 18 (f := .glo "_law_word") rfl)
    k__law_word := (c.kit.def_ 18 (d := dd__law_word) rfl).choose_spec.kp
    g__law_table := He.glo_ok X G (c.kit.fact 19 (f := .glo "_law_table") rfl)
    k__law_table := (c.kit.def_ 19 (d := dd__law_table) rfl).choose_spec.kp
    g__law_run := He.glo_ok X G (c.kit.fact 20 (f := .glo "_law_run") rfl)
    k__law_run := (c.kit.def_ 20 (d := dd__law_run) rfl).choose_spec.kp
    g__law_from := He.glo_ok X G (c.kit.fact 21 (f := .glo "_law_from") rfl)
    k__law_from := (c.kit.def_ 21 (d := dd__law_from) rfl).choose_spec.kp
    g__law_told := He.glo_ok X G (c.kit.fact 22 (f := .glo "_law_told") rfl)
    k__law_told := (c.kit.def_ 22 (d := dd__law_told) rfl).choose_spec.kp
    g__law_refused := He.glo_ok X G (c.kit.fact 23 (f := .glo "_law_refused") rfl)
    k__law_refused := (c.kit.def_ 23 (d := dd__law_refused) rfl).choose_spec.kp
    g_law := He.glo_ok X G (c.kit.fact 24 (f := .glo "law") rfl)
    k_law := (c.kit.def_ 24 (d := dd_law) rfl).choose_spec.kp
    n_all := He.free_ok X G (c.kit.fact 25 (f := .free "all") rfl)
    n_bool := He.free_ok X G (c.kit.fact 26 (f := .free "bool") rfl)
    n_enumerate := He.free_ok X G (c.kit.fact 27 (f := .free "enumerate") rfl)
    n_int := He.free_ok X G (c.kit.fact 28 (f := .free "int") rfl)
    n_isinstance := He.free_ok X G (c.kit.fact 29 (f := .free "isinstance") rfl)
    n_len := He.free_ok X G (c.kit.fact 30 (f := .free "len") rfl)
    n_list := He.free_ok X G (c.kit.fact 31 (f := .free "list") rfl)
    n_max := He.free_ok X G (c.kit.fact 32 (f := .free "max") rfl)
    n_range := He.free_ok X G (c.kit.fact 33 (f := .free "range") rfl)
    n_set := He.free_ok X G (c.kit.fact 34 (f := .free "set") rfl)
    n_sorted := He.free_ok X G (c.kit.fact 35 (f := .free "sorted") rfl)
    n_str := He.free_ok X G (c.kit.fact 36 (f := .free "str") rfl)
    n_tuple := He.free_ok X G (c.kit.fact 37 (f := .free "tuple") rfl)
    i_ALL_LETTERS := He.str_ok X G (c.kit.fact 38 (f := .str "ALL_LETTERS" "abcd") rfl)
    i_MOST_STATES := He.int_ok X G (c.kit.fact 39 (f := .int "MOST_STATES" 40) rfl)
    x_AskError := He.glo_ok X G (c.kit.fact 40 (f := .glo "AskError") rfl)
    x_BadLetters := He.glo_ok X G (c.kit.fact 41 (f := .glo "BadLetters") rfl)
    x_BadMachine := He.glo_ok X G (c.kit.fact 42 (f := .glo "BadMachine") rfl)
    x_BadNumber := He.glo_ok X G (c.kit.fact 43 (f := .glo "BadNumber") rfl)
    x_BadText := He.glo_ok X G (c.kit.fact 44 (f := .glo "BadText") rfl)
    x_Machine := He.glo_ok X G (c.kit.fact 45 (f := .glo "Machine") rfl)
    low_BadMachine := lowB_ok (c.ex 0 rfl)
    bas_AskError := baseB_ok (c.ex 1 rfl)
    c_BadLetters := ⟨by decide, rfl⟩
    e_BadLetters := He.exc_ok (c.kit.fact 46 (f := .exc "BadLetters") rfl)
    c_BadMachine := ⟨by decide, rfl⟩
    c_BadNumber := ⟨by decide, rfl⟩
    e_BadNumber := He.exc_ok (c.kit.fact 47 (f := .exc "BadNumber") rfl)
    c_BadText := ⟨by decide, rfl⟩
    e_BadText := He.exc_ok (c.kit.fact 48 (f := .exc "BadText") rfl)
    m_AskError := exmB_ok (c.ex 2 rfl)
    ty_BadNumber := tyTB_ok (c.ex 3 rfl)
    ty_BadText := tyTB_ok (c.ex 4 rfl)
    ty_bool := tyTB_ok (c.ex 5 rfl)
    ty_int := tyTB_ok (c.ex 6 rfl)
    ty_list := tyTB_ok (c.ex 7 rfl)
    ty_str := tyTB_ok (c.ex 8 rfl)
    ty_tuple := tyTB_ok (c.ex 9 rfl)
    hE := excAllB_ok (c.ex 10 rfl)
    sys := sysB_ok (c.ex 11 rfl)
    cls_Machine := He.cls_ok (c.kit.fact 49 (f := .cls "Machine") rfl)
    ic_Machine := ⟨by decide, rfl⟩
    mk_Machine := He.mkr_ok (c.kit.fact 50 (f := .mkr "Machine") rfl)
    fnc_Machine := (c.ex 12 rfl)
    na_own_accepting := naAllB_ok (c.ex 13 rfl)
    na_own_letters := naAllB_ok (c.ex 14 rfl)
    na_own_rows := naAllB_ok (c.ex 15 rfl)
    xf_own_accepting := xfAllB_ok (c.ex 16 rfl)
    xf_own_letters := xfAllB_ok (c.ex 17 rfl)
    xf_own_rows := xfAllB_ok (c.ex 18 rfl)
    hI := insAllB_ok (c.ex 19 rfl)
    mkb__law_refused := (c.ex 20 rfl)
    tnd := of_decide_eq_true (c.ex 21 rfl)
abbrev LVL : Nat := 50
theorem told {P : Program} {w : World} {K : PySem.W.Frag} {h : Heap} {mg : Str → Option Value} {fl : Addr} (X : K.In h) (G : h.Ns mainGlobals mg) (hl : mg ("law" : Str) = some (.ref fl)) (c : SaysM xss fas dds tbs w K) :
    ∃ fd : FuncData, (∀ (s : Shared) (u : Value), BindsTo s fd ⟨[u], []⟩ [("_law_script", u)]) ∧ (∀ m ∈ mkN, mkB K (gaS K m) = true) ∧ ∀ base : Heap, K.In base → base.Ns mainGlobals mg → (∀ m : String, m ∈ mkN → LamX.TabB base mg (cOf K (gaS K m)) (pOf K (gaS K m))) → FnG P w K mg base (4 * LVL + 2) fl fd ["_law_script"] (spI K (CT K []) (callN tab LVL) (.f "law")) := by
  have TA := fun gh => facts X G c gh
  have T := TA []
  obtain ⟨fd0, D0⟩ := c.kit.def_ 0 (d := dd_is_number) rfl
  have F0 : Fun K "is_number" "is_number" st_is_number (gaS K "is_number") fd0 := fun_of D0
  have B0 : L2.Binds K fd0 ["value", "low", "high"] [] := F0.binds fun _ _ _ _ _ _ us hl => match us, hl with | [_, _, _], _ => rfl
  obtain ⟨fd1, D1⟩ := c.kit.def_ 1 (d := dd_is_alphabet) rfl
  have F1 : Fun K "is_alphabet" "is_alphabet" st_is_alphabet (gaS K "is_alphabet") fd1 := fun_of D1
  have B1 : L2.Binds K fd1 ["value"] [] := F1.binds fun _ _ _ _ _ _ us hl => match us, hl with | [_], _ => rfl
  obtain ⟨fd2, D2⟩ := c.kit.def_ 2 (d := dd_need_letters) rfl
  have F2 : Fun K "need_letters" "need_letters" st_need_letters (gaS K "need_letters") fd2 := fun_of D2
  have B2 : L2.Binds K fd2 ["value"] [] := F2.binds fun _ _ _ _ _ _ us hl => match us, hl with | [_], _ => rfl
  obtain ⟨fd3, D3⟩ := c.kit.def_ 3 (d := dd_is_text) rfl
  have F3 : Fun K "is_text" "is_text" st_is_text (gaS K "is_text") fd3 := fun_of D3
  have B3 : L2.Binds K fd3 ["letters", "value"] [] := F3.binds fun _ _ _ _ _ _ us hl => match us, hl with | [_, _], _ => rfl
  obtain ⟨fd4, D4⟩ := c.kit.def_ 4 (d := dd_need_text) rfl
  have F4 : Fun K "need_text" "need_text" st_need_text (gaS K "need_text") fd4 := fun_of D4
  have B4 : L2.Binds K fd4 ["letters", "value"] [] := F4.binds fun _ _ _ _ _ _ us hl => match us, hl with | [_, _], _ => rfl
  obtain ⟨fd5, D5⟩ := c.kit.def_ 5 (d := dd_is_row) rfl
  have F5 : Fun K "is_row" "is_row" st_is_row (gaS K "is_row") fd5 := fun_of D5
  have B5 : L2.Binds K fd5 ["letters", "row", "many"] [] := F5.binds fun _ _ _ _ _ _ us hl => match us, hl with | [_, _, _], _ => rfl
  obtain ⟨fd6, D6⟩ := c.kit.def_ 6 (d := dd_are_states) rfl
  have F6 : Fun K "are_states" "are_states" st_are_states (gaS K "are_states") fd6 := fun_of D6
  have B6 : L2.Binds K fd6 ["value", "many"] [] := F6.binds fun _ _ _ _ _ _ us hl => match us, hl with | [_, _], _ => rfl
  obtain ⟨fd7, D7⟩ := c.kit.def_ 7 (d := dd_Machine____init__) rfl
  have F7 : Fun K "__init__" "Machine.__init__" st_Machine____init__ (He.ma K (gaS K "Machine") (SO "__init__")) fd7 := fun_of D7
  have B7 : L2.Binds K fd7 ["self", "letters", "rows", "accepting"] [] := F7.binds fun _ _ _ _ _ _ us hl => match us, hl with | [_, _, _, _], _ => rfl
  obtain ⟨fd8, D8⟩ := c.kit.def_ 8 (d := dd_Machine____len__) rfl
  have F8 : Fun K "__len__" "Machine.__len__" st_Machine____len__ (He.ma K (gaS K "Machine") (SO "__len__")) fd8 := fun_of D8
  have B8 : L2.Binds K fd8 ["self"] [] := F8.binds fun _ _ _ _ _ _ us hl => match us, hl with | [_], _ => rfl
  obtain ⟨fd9, D9⟩ := c.kit.def_ 9 (d := dd_Machine__end) rfl
  have F9 : Fun K "end" "Machine.end" st_Machine__end (He.ma K (gaS K "Machine") (SO "end")) fd9 := fun_of D9
  have B9 : L2.Binds K fd9 ["self", "text"] [] := F9.binds fun _ _ _ _ _ _ us hl => match us, hl with | [_, _], _ => rfl
  obtain ⟨fd10, D10⟩ := c.kit.def_ 10 (d := dd_Machine____contains__) rfl
  have F10 : Fun K "__contains__" "Machine.__contains__" st_Machine____contains__ (He.ma K (gaS K "Machine") (SO "__contains__")) fd10 := fun_of D10
  have B10 : L2.Binds K fd10 ["self", "text"] [] := F10.binds fun _ _ _ _ _ _ us hl => match us, hl with | [_, _], _ => rfl
  obtain ⟨fd11, D11⟩ := c.kit.def_ 11 (d := dd_Machine____call__) rfl
  have F11 : Fun K "__call__" "Machine.__call__" st_Machine____call__ (He.ma K (gaS K "Machine") (SO "__call__")) fd11 := fun_of D11
  have B11 : L2.Binds K fd11 ["self", "state", "text"] [] := F11.binds fun _ _ _ _ _ _ us hl => match us, hl with | [_, _, _], _ => rfl
  obtain ⟨fd12, D12⟩ := c.kit.def_ 12 (d := dd_place_of) rfl
  have F12 : Fun K "place_of" "place_of" st_place_of (gaS K "place_of") fd12 := fun_of D12
  have B12 : L2.Binds K fd12 ["letters", "letter"] [] := F12.binds fun _ _ _ _ _ _ us hl => match us, hl with | [_, _], _ => rfl
  obtain ⟨fd13, D13⟩ := c.kit.def_ 13 (d := dd_state_behind) rfl
  have F13 : Fun K "state_behind" "state_behind" st_state_behind (gaS K "state_behind") fd13 := fun_of D13
  have B13 : L2.Binds K fd13 ["letters", "rows", "state", "text"] [] := F13.binds fun _ _ _ _ _ _ us hl => match us, hl with | [_, _, _, _], _ => rfl
  obtain ⟨fd14, D14⟩ := c.kit.def_ 14 (d := dd__law_begin) rfl
  have F14 : Fun K "_law_begin" "_law_begin" st__law_begin (gaS K "_law_begin") fd14 := fun_of D14
  have B14 : L2.Binds K fd14 ["_law_cell", "_law_turn"] [] := F14.binds fun _ _ _ _ _ _ us hl => match us, hl with | [_, _], _ => rfl
  obtain ⟨fd15, D15⟩ := c.kit.def_ 15 (d := dd__law_draw) rfl
  have F15 : Fun K "_law_draw" "_law_draw" st__law_draw (gaS K "_law_draw") fd15 := fun_of D15
  have B15 : L2.Binds K fd15 ["_law_state", "_law_size"] [] := F15.binds fun _ _ _ _ _ _ us hl => match us, hl with | [_, _], _ => rfl
  obtain ⟨fd16, D16⟩ := c.kit.def_ 16 (d := dd__law_pick) rfl
  have F16 : Fun K "_law_pick" "_law_pick" st__law_pick (gaS K "_law_pick") fd16 := fun_of D16
  have B16 : L2.Binds K fd16 ["_law_state", "_law_items"] [] := F16.binds fun _ _ _ _ _ _ us hl => match us, hl with | [_, _], _ => rfl
  obtain ⟨fd17, D17⟩ := c.kit.def_ 17 (d := dd__law_alphabet) rfl
  have F17 : Fun K "_law_alphabet" "_law_alphabet" st__law_alphabet (gaS K "_law_alphabet") fd17 := fun_of D17
  have B17 : L2.Binds K fd17 ["_law_state"] [] := F17.binds fun _ _ _ _ _ _ us hl => match us, hl with | [_], _ => rfl
  obtain ⟨fd18, D18⟩ := c.kit.def_ 18 (d := dd__law_word) rfl
  have F18 : Fun K "_law_word" "_law_word" st__law_word (gaS K "_law_word") fd18 := fun_of D18
  have B18 : L2.Binds K fd18 ["_law_state", "_law_letters", "_law_most"] [] := F18.binds fun _ _ _ _ _ _ us hl => match us, hl with | [_, _, _], _ => rfl
  obtain ⟨fd19, D19⟩ := c.kit.def_ 19 (d := dd__law_table) rfl
  have F19 : Fun K "_law_table" "_law_table" st__law_table (gaS K "_law_table") fd19 := fun_of D19
  have B19 : L2.Binds K fd19 ["_law_state", "_law_letters", "_law_most"] [] := F19.binds fun _ _ _ _ _ _ us hl => match us, hl with | [_, _, _], _ => rfl
  obtain ⟨fd20, D20⟩ := c.kit.def_ 20 (d := dd__law_run) rfl
  have F20 : Fun K "_law_run" "_law_run" st__law_run (gaS K "_law_run") fd20 := fun_of D20
  have B20 : L2.Binds K fd20 ["_law_letters", "_law_rows", "_law_text"] [] := F20.binds fun _ _ _ _ _ _ us hl => match us, hl with | [_, _, _], _ => rfl
  obtain ⟨fd21, D21⟩ := c.kit.def_ 21 (d := dd__law_from) rfl
  have F21 : Fun K "_law_from" "_law_from" st__law_from (gaS K "_law_from") fd21 := fun_of D21
  have B21 : L2.Binds K fd21 ["_law_letters", "_law_rows", "_law_place", "_law_text"] [] := F21.binds fun _ _ _ _ _ _ us hl => match us, hl with | [_, _, _, _], _ => rfl
  obtain ⟨fd22, D22⟩ := c.kit.def_ 22 (d := dd__law_told) rfl
  have F22 : Fun K "_law_told" "_law_told" st__law_told (gaS K "_law_told") fd22 := fun_of D22
  have B22 : L2.Binds K fd22 ["_law_work"] [] := F22.binds fun _ _ _ _ _ _ us hl => match us, hl with | [_], _ => rfl
  obtain ⟨fd23, D23⟩ := c.kit.def_ 23 (d := dd__law_refused) rfl
  have F23 : Fun K "_law_refused" "_law_refused" st__law_refused (gaS K "_law_refused") fd23 := fun_of D23
  have B23 : L2.Binds K fd23 ["_law_state", "_law_made", "_law_letters"] [] := F23.binds fun _ _ _ _ _ _ us hl => match us, hl with | [_, _, _], _ => rfl
  obtain ⟨fd24, D24⟩ := c.kit.def_ 24 (d := dd_law) rfl
  have F24 : Fun K "law" "law" st_law (gaS K "law") fd24 := fun_of D24
  have B24 : L2.Binds K fd24 ["_law_script"] [] := F24.binds fun _ _ _ _ _ _ us hl => match us, hl with | [_], _ => rfl
  obtain ⟨fdi0, DI0⟩ := c.kit.def_ 25 (d := ddi_BadMachine) rfl
  have FI0 : Fun K "__init__" "BadMachine.__init__" si_BadMachine (He.ma K (gaS K "BadMachine") "__init__") fdi0 := fun_of DI0
  have BI0 : L2.Binds K fdi0 ["self", "index"] [] := FI0.binds fun _ _ _ _ _ _ us hl => match us, hl with | [_, _], _ => rfl
  have e := hl.symm.trans T.g_law
  cases e
  refine ⟨fd24, fun s u => ?_, fun m hm => ?_, fun base _ _ TB => ?_⟩
  · obtain ⟨oc, od, dV, kV, doc, pm, an, cdv, ct, osl, e, lk, hcd, hD, _⟩ := D24.ex
    rcases hD with ⟨_, rfl⟩ | ⟨z, _⟩
    · subst e
      exact .of_eq rfl
    · exact absurd rfl z
  · simp only [mkN, List.mem_cons, List.not_mem_nil, or_false] at hm
    rcases hm with rfl
    · exact T.mkb__law_refused
  · have l_BadMachine : LowI P w K mg base "BadMachine" (Str.ofString "index") (gaS K "BadMachine") := lowI_mk T.x_BadMachine T.low_BadMachine (i_BadMachine T FI0) BI0
    have C := cals (P := P) (w := w) (base := base) TA TB F0 B0 F1 B1 F2 B2 F3 B3 F4 B4 F5 B5 F6 B6 F7 B7 F8 B8 F9 B9 F10 B10 F11 B11 F12 B12 F13 B13 F14 B14 F15 B15 F16 B16 F17 B17 F18 B18 F19 B19 F20 B20 F21 B21 F22 B22 F23 B23 F24 B24 l_BadMachine (LVL - 1)
    have q := f_law (gh := []) TA C TB F24
    have e : spI K (CT K []) (callN tab LVL) (.f "law") = spB K (CT K []) (callN tab (LVL - 1)) c_law := rfl
    rw [e]
    exact q
/-! ### the run of the top -/
abbrev R0 : PySem.W.OpenRow := PySem.W.OpenLaw.row PySem.Challenge.rw_smallasks_k04_machines_read_texts
abbrev hook : PySem.W.Hook := hookL 5 xss fas dds tbs mkN
def ob (s : PySem.W.SharedT) : ObsL := obsLG 5 xss fas dds tbs mkN (HandSHeadRun.getT s)
theorem ob_eq (s : PySem.W.SharedT) : ob s = hook.obs s.abs := obsLG_eq (HandSHeadRun.getT_eq s)
def loose : List Str := (["_wall", "AskError", "BadLetters", "BadText", "BadMachine", "TooMany", "BadNumber", "ALL_LETTERS", "is_number", "is_alphabet", "need_letters", "is_text", "need_text", "MOST_STATES", "is_row", "are_states", "Machine", "place_of", "state_behind", "order_of", "blocks_of", "reduced", "paired", "_law_begin", "_law_draw", "_law_pick", "_law_alphabet", "_law_word", "_law_table", "_law_run"] : List Str) ++ (["_law_from", "_law_told", "_law_refused"] : List Str)
theorem run (w : World) : HandSHeadRun.RunEq R0 (PySem.W.view R0.prog [37]) hook ob 9000 loose w := by
  intro os
  kernel_rfl
end Mk04

open PySem PySem.W PySem.Calls PyProof.Rows in
theorem Mk04.holds_of (ok : ∀ ns : List Int, ns.length ≤ 63 → ∃ h', Mi.callN Mk04.tab Mk04.LVL (.f "law") [.ref 0] [.frz (ns.map .int)] = .ok (.bl true) h') : PySem.Challenge.rw_smallasks_k04_machines_read_texts.Holds := by
  w_on; o_law
  refine HandSHeadRun.head_any (r := OpenLaw.row PySem.Challenge.rw_smallasks_k04_machines_read_texts) (q := view (OpenLaw.row PySem.Challenge.rw_smallasks_k04_machines_read_texts).prog [37]) (H := Mk04.hook) (ob := Mk04.ob) (M := 9000) (loose := Mk04.loose) (d := HandSHeadRun.topDef (OpenLaw.row PySem.Challenge.rw_smallasks_k04_machines_read_texts).prog 37) (kwd := []) Mk04.ob_eq
    (by kernel_rfl) (fun s => by kernel_rfl) Mk04.run (by kernel_rfl) (by kernel_rfl) (by kernel_rfl) (by rfl) (by first | assumption | decide +kernel) (by decide +kernel) ⟨rfl, rfl, rfl, rfl, rfl, by decide +kernel⟩ ?hw ?hc
  case hw => w_witness2
  case hc =>
    refine Mi.walkL (l := PySem.Challenge.rw_smallasks_k04_machines_read_texts) (k := 4 * Mk04.LVL + 2) (x := "_law_script") (cl := Mi.callN Mk04.tab Mk04.LVL) rfl (by kernel_rfl) ⟨rfl, by decide, by decide⟩ ?F ok
    intro w mg fa h Y G hmg0
    obtain ⟨K, inK, c, hT⟩ := Y
    have hmg : mg ("law" : PySem.Str) = some (.ref fa) := by
      have e : (HandSHeadRun.topDef (OpenLaw.row PySem.Challenge.rw_smallasks_k04_machines_read_texts).prog 37).name = ("law" : PySem.Str) := by kernel_rfl
      rw [← e]
      exact hmg0
    obtain ⟨fd, bd, mk, hF⟩ := Mk04.told (P := (PySem.Challenge.rw_smallasks_k04_machines_read_texts).prog) (w := w) inK G hmg c
    refine ⟨K, fd, Mk04.CT K [], Mk04.mkN.map fun m => (Mi.cOf K (Mi.gaS K m), Mi.pOf K (Mi.gaS K m)), rfl, ?_, inK, ?_, ?_, ?_, bd, fun base i g TB => hF base i g fun m hm => TB _ (List.mem_map.mpr ⟨m, hm, rfl⟩)⟩
    · intro p hp
      simp only [List.mem_cons, List.not_mem_nil, or_false] at hp
      rcases hp with rfl
      · exact List.mem_map.mpr ⟨_, List.mem_map.mpr ⟨"_law_refused", by decide, rfl⟩, rfl⟩
    · intro p hp
      obtain ⟨m, hm, rfl⟩ := List.mem_map.mp hp
      exact hT m hm
    · intro p hp
      obtain ⟨m, hm, rfl⟩ := List.mem_map.mp hp
      exact Mi.mkB_n (mk m hm)
    · intro p hp
      obtain ⟨m, hm, rfl⟩ := List.mem_map.mp hp
      exact PySem.W.codeHd_of_K inK (Mi.mkB_h (mk m hm))

set_option linter.all false
set_option maxRecDepth 10000
/-! L0: what every law draws from: its state, begin, draw, pick. -/
namespace Mi
/-! ### the store, read and written -/
theorem get_set {h : PH} {p : Nat} {o u : PO} (e : h[p]? = some u) : (h.set p o)[p]? = some o := by
  rw [List.getElem?_set_self (List.getElem?_eq_some_iff.mp e).1]
theorem set_set {h : PH} {p : Nat} {o u : PO} : (h.set p o).set p u = h.set p u := List.set_set ..
def drawFn : Fn := ⟨2, 1, [.ite (.cmp .gt (.idx (.v 0) (.k (.int 0))) (.k (.int 0))) [.asg (.nm 2) (.bop .mod (.blt "int" [.idx (.v 0) (.k (.int 0))]) (.v 1)),
  .seti (.v 0) (.k (.int 0)) (.bop .fdiv (.idx (.v 0) (.k (.int 0))) (.v 1)),
  .ret (.v 2)] [],
  .seti (.v 0) (.k (.int 2)) (.bop .add (.idx (.v 0) (.k (.int 2))) (.k (.int 1))),
  .asg (.nm 2) (.bop .add (.bop .mod (.blt "int" [.idx (.v 0) (.k (.int 1))]) (.k (.int 2147483629))) (.bop .mul (.k (.int 104729)) (.idx (.v 0) (.k (.int 2))))),
  .asg (.nm 2) (.bop .mul (.v 2) (.bop .add (.bop .add (.bop .mod (.blt "int" [.idx (.v 0) (.k (.int 1))]) (.k (.int 2147483587))) (.bop .mul (.bop .mul (.k (.int 7919)) (.idx (.v 0) (.k (.int 2)))) (.idx (.v 0) (.k (.int 2))))) (.k (.int 11)))),
  .ret (.bop .mod (.blt "int" [.bop .fdiv (.bop .mod (.blt "int" [.bop .pow (.v 2) (.k (.int 3))]) (.k (.int 2147483647))) (.k (.int 11))]) (.v 1))]⟩
/-- the law's state at p -/
def StAt (h : PH) (p : Nat) (a b c : Int) : Prop := h[p]? = some (.lst [.int a, .int b, .int c])
theorem log_le {x : Nat} {k : Nat} (h : x < 2 ^ k) : x.log2 ≤ k := by
  by_cases hx : x = 0
  · subst hx; simp
  · have := Nat.log2_self_le hx
    have h2 : 2 ^ x.log2 < 2 ^ k := Nat.lt_of_le_of_lt this h
    exact Nat.le_of_lt ((Nat.pow_lt_pow_iff_right (by decide)).mp h2)
theorem mulOk_of {i j : Int} {a b : Nat} (hi : i.natAbs < 2 ^ a) (hj : j.natAbs < 2 ^ b) (h : a + b < 1000000) : mulOk i j = true := by
  unfold mulOk
  have := log_le hi
  have := log_le hj
  exact decide_eq_true (by omega)
theorem draw_one {cl : Cl} {p : Nat} {a b c size : Int} {h : PH} (hp : StAt h p a b c) (ha : 0 < a) (hs : 0 < size) (hs2 : size < 2 ^ 60) :
    drawFn.run cl [.ref p, .int size] h = .ok (.int (a % size)) (h.set p (.lst [.int (a / size), .int b, .int c])) := by
  have hlog : size.natAbs.log2 < 9000 := Nat.lt_of_le_of_lt (log_le (k := 60) (by omega)) (by decide)
  unfold StAt at hp
  simp [Fn.run, drawFn, exs, ex, tst, ev, evs, hp, idxV, atI, ixN, oneR, cmpV, truR, tru, ha, bltV, bopV, hs, bindT, setiV, hlog, endR]
theorem natAbs_lt {i : Int} {n : Nat} (h0 : 0 ≤ i) (h : i < (n : Int)) : i.natAbs < n := by omega
theorem draw_two {cl : Cl} {p : Nat} {a b c size : Int} {h : PH} (hp : StAt h p a b c) (ha : ¬ 0 < a) (hs : 0 < size) (hc : 0 ≤ c) (hc2 : c < 2 ^ 60) :
    ∃ r, 0 ≤ r ∧ r < size ∧ drawFn.run cl [.ref p, .int size] h = .ok (.int r) (h.set p (.lst [.int a, .int b, .int (c + 1)])) := by
  have hp2 := get_set (o := .lst [.int a, .int b, .int (c + 1)]) hp
  unfold StAt at hp
  generalize hx : b % 2147483629 + 104729 * (c + 1) = x
  generalize hy : b % 2147483587 + 7919 * (c + 1) * (c + 1) + 11 = y
  have hb1 : 0 ≤ b % 2147483629 ∧ b % 2147483629 < 2147483629 := ⟨Int.emod_nonneg _ (by decide), Int.emod_lt_of_pos _ (by decide)⟩
  have hb2 : 0 ≤ b % 2147483587 ∧ b % 2147483587 < 2147483587 := ⟨Int.emod_nonneg _ (by decide), Int.emod_lt_of_pos _ (by decide)⟩
  have hx1 : 0 ≤ x ∧ x < 2 ^ 90 := by omega
  have hcc : 0 ≤ (c + 1) * (c + 1) ∧ (c + 1) * (c + 1) ≤ 2 ^ 60 * 2 ^ 60 := ⟨Int.mul_nonneg (by omega) (by omega), Int.mul_le_mul (by omega) (by omega) (by omega) (by decide)⟩
  have h79 : 7919 * (c + 1) * (c + 1) = 7919 * ((c + 1) * (c + 1)) := Int.mul_assoc ..
  have hy1 : 0 ≤ y ∧ y < 2 ^ 140 := by rw [h79] at hy; omega
  have hxy : 0 ≤ x * y ∧ x * y ≤ 2 ^ 90 * 2 ^ 140 := ⟨Int.mul_nonneg hx1.1 hy1.1, Int.mul_le_mul (by omega) (by omega) hy1.1 (by decide)⟩
  have m1 : mulOk 104729 (c + 1) = true := mulOk_of (a := 20) (b := 64) (by decide) (natAbs_lt (by omega) (by omega)) (by decide)
  have m2 : mulOk 7919 (c + 1) = true := mulOk_of (a := 20) (b := 64) (by decide) (natAbs_lt (by omega) (by omega)) (by decide)
  have m3 : mulOk (7919 * (c + 1)) (c + 1) = true := mulOk_of (a := 84) (b := 64) (natAbs_lt (by omega) (by omega)) (natAbs_lt (by omega) (by omega)) (by decide)
  have m4 : mulOk x y = true := mulOk_of (a := 90) (b := 140) (natAbs_lt hx1.1 (by omega)) (natAbs_lt hy1.1 (by omega)) (by decide)
  have pw : ((x * y).natAbs.log2 + 1) * 3 ≤ 134217728 := by
    have := log_le (x := (x * y).natAbs) (k := 231) (natAbs_lt hxy.1 (by omega))
    omega
  have l11 : Nat.log2 11 < 9000 := Nat.lt_of_le_of_lt (log_le (k := 4) (by decide)) (by decide)
  refine ⟨((x * y) ^ 3 % 2147483647 / 11) % size, Int.emod_nonneg _ (by omega), Int.emod_lt_of_pos _ hs, ?_⟩
  simp [Fn.run, drawFn, exs, ex, tst, ev, evs, hp, hp2, idxV, atI, ixN, oneR, cmpV, truR, tru, ha, bltV, bopV, hs, bindT, setiV, endR, m1, m2, m3, hx, hy, m4, pw, l11]
/-! ### the state between draws -/
/-- a state at p, of at most m draws -/
def Ok (h : PH) (p m : Nat) : Prop := ∃ a b c : Int, StAt h p a b c ∧ 0 ≤ a ∧ 0 ≤ c ∧ c ≤ m
/-- all but p stays -/
def Kp (p : Nat) (h h' : PH) : Prop := ∀ (i : Nat) (o : PO), h[i]? = some o → i ≠ p → h'[i]? = some o
theorem Ok.more {h : PH} {p m n : Nat} (o : Ok h p m) (l : m ≤ n) : Ok h p n := by
  obtain ⟨a, b, c, h1, h2, h3, h4⟩ := o
  exact ⟨a, b, c, h1, h2, h3, by omega⟩
theorem Ok.lt {h : PH} {p m : Nat} (o : Ok h p m) : p < h.length := by
  obtain ⟨a, b, c, h1, _⟩ := o
  exact (List.getElem?_eq_some_iff.mp h1).1
theorem Kp.refl {p : Nat} {h : PH} : Kp p h h := fun _ _ e _ => e
theorem Kp.trans {p : Nat} {h h1 h2 : PH} (a : Kp p h h1) (b : Kp p h1 h2) : Kp p h h2 := fun i o e n => b i o (a i o e n) n
theorem Kp.set {p : Nat} {h : PH} {o : PO} : Kp p h (h.set p o) := fun i u e n => by
  rw [List.getElem?_set_ne (fun z => n z.symm)]
  exact e
theorem Kp.app {p : Nat} {h g : PH} : Kp p h (h ++ g) := fun i u e n => by
  rw [List.getElem?_append_left (List.getElem?_eq_some_iff.mp e).1]
  exact e
theorem Ok.app {p m : Nat} {h g : PH} (o : Ok h p m) : Ok (h ++ g) p m := by
  obtain ⟨a, b, c, h1, h2⟩ := o
  refine ⟨a, b, c, ?_, h2⟩
  unfold StAt
  rw [List.getElem?_append_left (List.getElem?_eq_some_iff.mp h1).1]
  exact h1
theorem draw_ok {cl : Cl} {p m : Nat} {size : Int} {h : PH} (o : Ok h p m) (hm : m < 2 ^ 60) (hs : 0 < size) (hs2 : size < 2 ^ 60) :
    ∃ r h', 0 ≤ r ∧ r < size ∧ drawFn.run cl [.ref p, .int size] h = .ok (.int r) h' ∧ Ok h' p (m + 1) ∧ Kp p h h' ∧ h'.length = h.length := by
  obtain ⟨a, b, c, h1, h2, h3, h4⟩ := o
  by_cases ha : 0 < a
  · exact ⟨a % size, _, Int.emod_nonneg _ (by omega), Int.emod_lt_of_pos _ hs, draw_one h1 ha hs hs2, ⟨_, b, c, get_set h1, Int.ediv_nonneg h2 (by omega), h3, by omega⟩, Kp.set, List.length_set⟩
  · obtain ⟨r, r1, r2, e⟩ := draw_two (cl := cl) h1 ha hs h3 (by omega)
    exact ⟨r, _, r1, r2, e, ⟨a, b, c + 1, get_set h1, h2, by omega, by omega⟩, Kp.set, List.length_set⟩
theorem run_of {cl : Cl} {f : Fn} {vs : List PV} {h : PH} (hl : vs.length = f.np) : f.run cl vs h = endR (exs cl f.body (vs.map some ++ List.replicate f.nl none) h) := by
  unfold Fn.run
  rw [if_pos hl]
theorem get_new {h : PH} {o : PO} : (h ++ [o])[h.length]? = some o := by simp
def beginFn : Fn := ⟨2, 0, [.ret (.lst [.blt "max" [.k (.int 0), .bop .sub (.v 0) (.bop .pow (.k (.int 10)) (.k (.int 18)))], .bop .add (.v 0) (.bop .mul (.k (.int 977)) (.v 1)), .k (.int 0)])]⟩
theorem begin_ok {cl : Cl} {x : Int} {t : Nat} {h : PH} (ht : t < 100) : ∃ h', beginFn.run cl [.int x, .int t] h = .ok (.ref h.length) h' ∧ Ok h' h.length 0 ∧ Kp h.length h h' := by
  have m1 : mulOk 977 (t : Int) = true := mulOk_of (a := 10) (b := 7) (by decide) (by omega) (by decide)
  have l1 : (Nat.log2 10 + 1) * 18 ≤ 134217728 := by
    have := log_le (x := 10) (k := 4) (by decide)
    omega
  refine ⟨h ++ [PO.lst [PV.int (if x - 10 ^ 18 > 0 then x - 10 ^ 18 else 0), PV.int (x + 977 * t), PV.int 0]], ?_, ⟨(if x - 10 ^ 18 > 0 then x - 10 ^ 18 else 0), x + 977 * t, 0, (get_new : (h ++ [PO.lst [PV.int (if x - 10 ^ 18 > 0 then x - 10 ^ 18 else 0), PV.int (x + 977 * t), PV.int 0]])[h.length]? = _), by split <;> omega, Int.le_refl _, by omega⟩, Kp.app⟩
  simp [Fn.run, beginFn, exs, ex, ev, evs, bltV, bopV, m1, l1, endR, szl]
def pickFn : Fn := ⟨2, 0, [.ret (.idx (.v 1) (.call "_law_draw" [.v 0, .blt "len" [.v 1]]))]⟩
theorem ixN_of {n : Nat} {r : Int} (h0 : 0 ≤ r) (h1 : r < n) : ixN n r = some r.toNat := by
  unfold ixN
  rw [if_pos h0, if_pos h1]
/-- an element of a list that is not the state -/
theorem pick_ok {cl : Cl} {p q m : Nat} {h : PH} {xs : List PV} (hd : ∀ vs g, cl (.f "_law_draw") vs g = drawFn.run cl vs g) (o : Ok h p m) (hm : m < 2 ^ 60) (hq : h[q]? = some (.lst xs)) (ne : q ≠ p) (h0 : 0 < xs.length) (h1 : xs.length < 2 ^ 60) :
    ∃ v h', v ∈ xs ∧ pickFn.run cl [.ref p, .ref q] h = .ok v h' ∧ Ok h' p (m + 1) ∧ Kp p h h' ∧ h'.length = h.length := by
  obtain ⟨r, h', r1, r2, e, o', k, l⟩ := draw_ok (cl := cl) (size := (xs.length : Int)) o hm (by omega) (by omega)
  have hr : r.toNat < xs.length := by omega
  have hq' := k q _ hq ne
  refine ⟨xs[r.toNat], h', List.getElem_mem hr, ?_, o', k, l⟩
  have ei : atI xs r = some xs[r.toNat] := by
    unfold atI
    rw [ixN_of r1 r2]
    simp [hr]
  rw [run_of rfl]
  simp [pickFn, exs, ex, ev, evs, bltV, lenOf, hq, oneR, hd, e, idxV, hq', ei, endR]
end Mi

set_option linter.all false
set_option maxRecDepth 10000
/-! L1: one statement at a time. -/
namespace Mi
theorem exs_nil {cl : Cl} {ρ : Env} {h : PH} : exs cl [] ρ h = .ok (.nx ρ) h := rfl
theorem exs_nx {cl : Cl} {s : S} {r : List S} {ρ ρ1 : Env} {h h1 : PH} (e : ex cl s ρ h = .ok (.nx ρ1) h1) : exs cl (s :: r) ρ h = exs cl r ρ1 h1 := by
  rw [exs, e]; rfl
theorem exs_rt {cl : Cl} {s : S} {r : List S} {ρ : Env} {v : PV} {h h1 : PH} (e : ex cl s ρ h = .ok (.rt v) h1) : exs cl (s :: r) ρ h = .ok (.rt v) h1 := by
  rw [exs, e]; rfl
theorem exs_xc {cl : Cl} {s : S} {r : List S} {ρ ρ1 : Env} {x : PX} {h h1 : PH} (e : ex cl s ρ h = .ok (.xc x ρ1) h1) : exs cl (s :: r) ρ h = .ok (.xc x ρ1) h1 := by
  rw [exs, e]; rfl
theorem ex_ret {cl : Cl} {e : E} {ρ : Env} {v : PV} {h h1 : PH} (p : ev cl e ρ h = .ok v h1) : ex cl (.ret e) ρ h = .ok (.rt v) h1 := by
  rw [ex, p]; rfl
theorem ex_asg {cl : Cl} {i : Nat} {e : E} {ρ : Env} {v : PV} {h h1 : PH} (p : ev cl e ρ h = .ok v h1) : ex cl (.asg (.nm i) e) ρ h = .ok (.nx (ρ.set i (some v))) h1 := by
  rw [ex, p]; simp [bindT]
theorem ex_ite_t {cl : Cl} {c : E} {a b : List S} {ρ : Env} {h h1 : PH} (p : tst cl c ρ h = .ok true h1) : ex cl (.ite c a b) ρ h = exs cl a ρ h1 := by
  rw [ex, p]; rfl
theorem ex_ite_f {cl : Cl} {c : E} {a b : List S} {ρ : Env} {h h1 : PH} (p : tst cl c ρ h = .ok false h1) : ex cl (.ite c a b) ρ h = exs cl b ρ h1 := by
  rw [ex, p]; rfl
theorem ex_ex {cl : Cl} {e : E} {ρ : Env} {v : PV} {h h1 : PH} (p : ev cl e ρ h = .ok v h1) : ex cl (.ex e) ρ h = .ok (.nx ρ) h1 := by
  rw [ex, p]; rfl
theorem ex_ex_xc {cl : Cl} {e : E} {ρ : Env} {x : PX} {h h1 : PH} (p : ev cl e ρ h = .exc x h1) : ex cl (.ex e) ρ h = .ok (.xc x ρ) h1 := by
  rw [ex, p]; rfl
theorem ex_asg_xc {cl : Cl} {t : T} {e : E} {ρ : Env} {x : PX} {h h1 : PH} (p : ev cl e ρ h = .exc x h1) : ex cl (.asg t e) ρ h = .ok (.xc x ρ) h1 := by
  rw [ex, p]; rfl
def forStep (cl : Cl) (t : T) (body : List S) : PV → Env → PH → R Fl := fun x ρ1 h2 => match bindT h2 t x ρ1 with
  | some ρ2 => exs cl body ρ2 h2
  | none => .bad
theorem forStep_nm {cl : Cl} {i : Nat} {body : List S} {x : PV} {ρ : Env} {h : PH} : forStep cl (.nm i) body x ρ h = exs cl body (ρ.set i (some x)) h := by
  simp [forStep, bindT]
theorem ex_for {cl : Cl} {t : T} {ik : IK} {its : List E} {body : List S} {ρ : Env} {h h1 : PH} {vs : List PV} {i : Its} (e : evs cl its ρ h = .ok vs h1) (e2 : itsOf ik vs h1 = some i) :
    ex cl (.for_ t ik its body) ρ h = forL i.g (forStep cl t body) i.xs ρ h1 := by
  rw [ex, e]
  simp only [lift_ok, e2]
  rfl
theorem forL_nil {g : Gd} {st : PV → Env → PH → R Fl} {ρ : Env} {h : PH} (ok : okG g h = true) : forL g st [] ρ h = .ok (.nx ρ) h := by
  rw [forL, if_pos ok]
theorem forL_nx {g : Gd} {st : PV → Env → PH → R Fl} {x : PV} {r : List PV} {ρ ρ1 : Env} {h h1 : PH} (ok : okG g h = true) (e : st x ρ h = .ok (.nx ρ1) h1) : forL g st (x :: r) ρ h = forL g st r ρ1 h1 := by
  rw [forL, if_pos ok, e]; rfl
theorem forL_rt {g : Gd} {st : PV → Env → PH → R Fl} {x : PV} {r : List PV} {ρ : Env} {v : PV} {h h1 : PH} (ok : okG g h = true) (e : st x ρ h = .ok (.rt v) h1) : forL g st (x :: r) ρ h = .ok (.rt v) h1 := by
  rw [forL, if_pos ok, e]; rfl
def lcStep (cl : Cl) (elt : E) (t : T) (cs : List E) (ρ0 : Env) : PV → PH → R (Option PV) := fun x h2 => match bindT h2 t x ρ0 with
  | some ρ1 => (evc cl cs ρ1 h2).bind fun b h3 => if b then (ev cl elt ρ1 h3).bind fun y h4 => .ok (some y) h4 else .ok none h3
  | none => .bad
theorem ev_lc {cl : Cl} {elt : E} {t : T} {ik : IK} {its cs : List E} {own : List Nat} {ρ : Env} {h h1 h2 : PH} {vs ys : List PV} {i : Its} (e : evs cl its ρ h = .ok vs h1) (e2 : itsOf ik vs h1 = some i) (l : i.xs.length < szl)
    (e3 : lcL i.g (lcStep cl elt t cs (wipeE ρ own)) i.xs h1 = .ok ys h2) : ev cl (.lc elt t ik its cs own) ρ h = .ok (.ref h2.length) (h2 ++ [.lst ys]) := by
  rw [ev, e]
  simp only [bind_ok, e2, if_pos l]
  show (lcL i.g (lcStep cl elt t cs (wipeE ρ own)) i.xs h1).bind _ = _
  rw [e3]
  rfl
theorem lcStep_nm {cl : Cl} {elt : E} {i : Nat} {ρ : Env} {x y : PV} {h h1 : PH} (e : ev cl elt (ρ.set i (some x)) h = .ok y h1) : lcStep cl elt (.nm i) [] ρ x h = .ok (some y) h1 := by
  simp [lcStep, bindT, evc, e]
theorem lcL_nil {g : Gd} {st : PV → PH → R (Option PV)} {h : PH} (ok : okG g h = true) : lcL g st [] h = .ok [] h := by
  rw [lcL, if_pos ok]
theorem lcL_some {g : Gd} {st : PV → PH → R (Option PV)} {x y : PV} {r ys : List PV} {h h1 h2 : PH} (ok : okG g h = true) (e : st x h = .ok (some y) h1) (e2 : lcL g st r h1 = .ok ys h2) : lcL g st (x :: r) h = .ok (y :: ys) h2 := by
  rw [lcL, if_pos ok, e]
  simp only [nox, bind_ok, e2]
end Mi

set_option linter.all false
set_option maxRecDepth 10000
/-! L2: what a run leads to: W. -/
namespace Mi
abbrev EQ := PX → PH → Prop
def W {α : Type} (r : R α) (Q : α → PH → Prop) (X : EQ) : Prop := match r with
  | .ok a h => Q a h
  | .exc x h => X x h
  | .bad => False
abbrev no : EQ := fun _ _ => False
@[simp] theorem W_ok {α : Type} {a : α} {h : PH} {Q : α → PH → Prop} {X : EQ} : W (.ok a h) Q X = Q a h := rfl
@[simp] theorem W_exc {α : Type} {x : PX} {h : PH} {Q : α → PH → Prop} {X : EQ} : W (.exc x h : R α) Q X = X x h := rfl
@[simp] theorem W_bad {α : Type} {Q : α → PH → Prop} {X : EQ} : W (.bad : R α) Q X = False := rfl
theorem W_bind {α β : Type} {r : R α} {f : α → PH → R β} {Q : β → PH → Prop} {X : EQ} : W (r.bind f) Q X = W r (fun a h => W (f a h) Q X) X := by cases r <;> rfl
theorem W_lift {α : Type} {r : R α} {ρ : Env} {f : α → PH → R Fl} {Q : Fl → PH → Prop} {X : EQ} : W (r.lift ρ f) Q X = W r (fun a h => W (f a h) Q X) (fun x h => Q (.xc x ρ) h) := by cases r <;> rfl
theorem W.mono {α : Type} {r : R α} {P Q : α → PH → Prop} {D X : EQ} (w : W r P D) (k : ∀ a h, P a h → Q a h) (l : ∀ x h, D x h → X x h) : W r Q X := by
  cases r with
  | ok a h => exact k a h w
  | exc x h => exact l x h w
  | bad => exact w
theorem W.use {α : Type} {r : R α} {P Q : α → PH → Prop} {X : EQ} (w : W r P no) (k : ∀ a h, P a h → Q a h) : W r Q X := w.mono k fun _ _ z => z.elim
theorem W.get {α : Type} {r : R α} {P : α → PH → Prop} (w : W r P no) : ∃ a h, r = .ok a h ∧ P a h := by
  cases r with
  | ok a h => exact ⟨a, h, rfl, w⟩
  | exc x h => exact w.elim
  | bad => exact w.elim
theorem W.of {α : Type} {r : R α} {P : α → PH → Prop} {X : EQ} {a : α} {h : PH} (e : r = .ok a h) (p : P a h) : W r P X := by rw [e]; exact p
/-! ### statements -/
def KF (cl : Cl) (r : List S) (Q : Fl → PH → Prop) (X : EQ) : Fl → PH → Prop
  | .nx ρ, h => W (exs cl r ρ h) Q X
  | .rt v, h => Q (.rt v) h
  | .bk ρ, h => Q (.bk ρ) h
  | .ct ρ, h => Q (.ct ρ) h
  | .xc x ρ, h => Q (.xc x ρ) h
@[simp] theorem KF_nx {cl : Cl} {r : List S} {Q : Fl → PH → Prop} {X : EQ} {ρ : Env} {h : PH} : KF cl r Q X (.nx ρ) h = W (exs cl r ρ h) Q X := rfl
@[simp] theorem KF_rt {cl : Cl} {r : List S} {Q : Fl → PH → Prop} {X : EQ} {v : PV} {h : PH} : KF cl r Q X (.rt v) h = Q (.rt v) h := rfl
@[simp] theorem KF_bk {cl : Cl} {r : List S} {Q : Fl → PH → Prop} {X : EQ} {ρ : Env} {h : PH} : KF cl r Q X (.bk ρ) h = Q (.bk ρ) h := rfl
@[simp] theorem KF_ct {cl : Cl} {r : List S} {Q : Fl → PH → Prop} {X : EQ} {ρ : Env} {h : PH} : KF cl r Q X (.ct ρ) h = Q (.ct ρ) h := rfl
@[simp] theorem KF_xc {cl : Cl} {r : List S} {Q : Fl → PH → Prop} {X : EQ} {x : PX} {ρ : Env} {h : PH} : KF cl r Q X (.xc x ρ) h = Q (.xc x ρ) h := rfl
@[simp] theorem W_nil {cl : Cl} {Q : Fl → PH → Prop} {X : EQ} {ρ : Env} {h : PH} : W (exs cl [] ρ h) Q X = Q (.nx ρ) h := rfl
@[simp] theorem W_cons {cl : Cl} {s : S} {r : List S} {Q : Fl → PH → Prop} {X : EQ} {ρ : Env} {h : PH} : W (exs cl (s :: r) ρ h) Q X = W (ex cl s ρ h) (KF cl r Q X) X := by
  rw [exs, W_bind]
  congr 1
  funext f h1
  cases f <;> rfl
/-- what a def's end is -/
def KE (Q : PV → PH → Prop) (X : EQ) : Fl → PH → Prop
  | .nx _, h => Q .non h
  | .rt v, h => Q v h
  | .bk _, _ => False
  | .ct _, _ => False
  | .xc x _, h => X x h
@[simp] theorem KE_nx {Q : PV → PH → Prop} {X : EQ} {ρ : Env} {h : PH} : KE Q X (.nx ρ) h = Q .non h := rfl
@[simp] theorem KE_rt {Q : PV → PH → Prop} {X : EQ} {v : PV} {h : PH} : KE Q X (.rt v) h = Q v h := rfl
@[simp] theorem KE_xc {Q : PV → PH → Prop} {X : EQ} {x : PX} {ρ : Env} {h : PH} : KE Q X (.xc x ρ) h = X x h := rfl
theorem W_run {cl : Cl} {f : Fn} {vs : List PV} {h : PH} {Q : PV → PH → Prop} {X : EQ} (l : vs.length = f.np) : W (f.run cl vs h) Q X = W (exs cl f.body (vs.map some ++ List.replicate f.nl none) h) (KE Q X) no := by
  rw [run_of l]
  cases exs cl f.body (vs.map some ++ List.replicate f.nl none) h with
  | ok a h1 => cases a <;> rfl
  | exc x h1 => rfl
  | bad => rfl
theorem callN_succ {t : FN → Option Fn} {n : Nat} {f : FN} {d : Fn} {vs : List PV} {h : PH} (e : t f = some d) : callN t (n + 1) f vs h = d.run (callN t n) vs h := by
  simp only [callN, e]
/-- a call, at a level that is not 0 -/
theorem W_call {t : FN → Option Fn} {n : Nat} {f : FN} {d : Fn} {vs : List PV} {h : PH} {Q : PV → PH → Prop} {X : EQ} (hn : 1 ≤ n) (e : t f = some d) (l : vs.length = d.np)
    (k : ∀ m, m + 1 = n → W (exs (callN t m) d.body (vs.map some ++ List.replicate d.nl none) h) (KE Q X) no) : W (callN t n f vs h) Q X := by
  obtain ⟨m, rfl⟩ : ∃ m, n = m + 1 := ⟨n - 1, by omega⟩
  rw [callN_succ e, W_run l]
  exact k m rfl
def KI (cl : Cl) (a b : List S) (ρ : Env) (Q : Fl → PH → Prop) (X : EQ) : Bool → PH → Prop
  | true, h => W (exs cl a ρ h) Q X
  | false, h => W (exs cl b ρ h) Q X
@[simp] theorem KI_t {cl : Cl} {a b : List S} {ρ : Env} {Q : Fl → PH → Prop} {X : EQ} {h : PH} : KI cl a b ρ Q X true h = W (exs cl a ρ h) Q X := rfl
@[simp] theorem KI_f {cl : Cl} {a b : List S} {ρ : Env} {Q : Fl → PH → Prop} {X : EQ} {h : PH} : KI cl a b ρ Q X false h = W (exs cl b ρ h) Q X := rfl
def KO {α : Type} (o : Option α) (Q : α → Prop) : Prop := match o with
  | some a => Q a
  | none => False
@[simp] theorem KO_some {α : Type} {a : α} {Q : α → Prop} : KO (some a) Q = Q a := rfl
section
variable {cl : Cl} {ρ : Env} {h : PH} {Q : Fl → PH → Prop} {X : EQ}
@[simp high] theorem W_nm {i : Nat} {e : E} : W (ex cl (.asg (.nm i) e) ρ h) Q X = W (ev cl e ρ h) (fun x h1 => Q (.nx (ρ.set i (some x))) h1) (fun x h1 => Q (.xc x ρ) h1) := by
  rw [ex, W_lift]
  congr 1
@[simp] theorem W_asg {t : T} {e : E} : W (ex cl (.asg t e) ρ h) Q X = W (ev cl e ρ h) (fun x h1 => KO (bindT h1 t x ρ) fun ρ1 => Q (.nx ρ1) h1) (fun x h1 => Q (.xc x ρ) h1) := by
  rw [ex, W_lift]
  congr 1
  funext x h1
  cases bindT h1 t x ρ <;> rfl
@[simp] theorem W_par {is : List Nat} {es : List E} : W (ex cl (.par is es) ρ h) Q X = W (evs cl es ρ h) (fun xs h1 => KO (setAll is xs ρ) fun ρ1 => Q (.nx ρ1) h1) (fun x h1 => Q (.xc x ρ) h1) := by
  rw [ex, W_lift]
  congr 1
  funext x h1
  cases setAll is x ρ <;> rfl
@[simp] theorem W_ex {e : E} : W (ex cl (.ex e) ρ h) Q X = W (ev cl e ρ h) (fun _ h1 => Q (.nx ρ) h1) (fun x h1 => Q (.xc x ρ) h1) := by
  rw [ex, W_lift]
  rfl
@[simp] theorem W_ret {e : E} : W (ex cl (.ret e) ρ h) Q X = W (ev cl e ρ h) (fun x h1 => Q (.rt x) h1) (fun x h1 => Q (.xc x ρ) h1) := by
  rw [ex, W_lift]
  rfl
@[simp] theorem W_ite {c : E} {a b : List S} : W (ex cl (.ite c a b) ρ h) Q X = W (ev cl c ρ h) (fun x h1 => KO (tru x h1) fun t => KI cl a b ρ Q X t h1) (fun x h1 => Q (.xc x ρ) h1) := by
  rw [ex, W_lift, tst, W_bind]
  congr 1
  funext x h1
  unfold truR
  cases tru x h1 with
  | none => rfl
  | some t => cases t <;> rfl
@[simp] theorem W_pass : W (ex cl .pass ρ h) Q X = Q (.nx ρ) h := by rw [ex]; rfl
@[simp] theorem W_brk : W (ex cl .brk ρ h) Q X = Q (.bk ρ) h := by rw [ex]; rfl
@[simp] theorem W_cnt : W (ex cl .cnt ρ h) Q X = Q (.ct ρ) h := by rw [ex]; rfl
@[simp] theorem W_raise {c : String} {as : List E} : W (ex cl (.raise c as) ρ h) Q X = W (evs cl as ρ h) (fun vs h1 => vs.length ≤ szl ∧ Q (.xc ⟨c, []⟩ ρ) h1) (fun x h1 => Q (.xc x ρ) h1) := by
  rw [ex, W_lift]
  congr 1
  funext x h1
  split
  · next h => simp [W, h]
  · next h => simp [W, h]
@[simp] theorem W_aug {i : Nat} {neg : Bool} {e : E} : W (ex cl (.aug i neg e) ρ h) Q X = KO (ρ[i]?.bind id) fun x => W (ev cl e ρ h) (fun y h1 => W (augV neg x y h1) (fun z h2 => Q (.nx (ρ.set i (some z))) h2) (fun x h1 => Q (.xc x ρ) h1)) (fun x h1 => Q (.xc x ρ) h1) := by
  rw [ex]
  cases ρ[i]? with
  | none => rfl
  | some o =>
    cases o with
    | none => rfl
    | some x =>
      simp only [W_lift]
      rfl
@[simp] theorem W_augI {neg : Bool} {i j : Int} {Q : PV → PH → Prop} {X : EQ} : W (augV neg (.int i) (.int j) h) Q X = Q (.int (if neg then i - j else i + j)) h := rfl
@[simp] theorem W_truR {v : PV} {Q : Bool → PH → Prop} {X : EQ} : W (truR v h) Q X = KO (tru v h) fun b => Q b h := by
  unfold truR
  cases tru v h <;> rfl
@[simp] theorem W_seti {o i e : E} : W (ex cl (.seti o i e) ρ h) Q X = W (ev cl e ρ h) (fun x h1 => W (ev cl o ρ h1) (fun y h2 => W (ev cl i ρ h2) (fun z h3 => W (setiV y z x h3) (fun _ h4 => Q (.nx ρ) h4) (fun x h1 => Q (.xc x ρ) h1)) (fun x h1 => Q (.xc x ρ) h1)) (fun x h1 => Q (.xc x ρ) h1)) (fun x h1 => Q (.xc x ρ) h1) := by
  rw [ex]
  simp only [W_lift]
  rfl
/-- for: what is walked -/
def KL (cl : Cl) (t : T) (body : List S) (ρ : Env) (h : PH) (Q : Fl → PH → Prop) (X : EQ) (o : Option Its) : Prop := ∃ i, o = some i ∧ W (forL i.g (forStep cl t body) i.xs ρ h) Q X
@[simp] theorem W_for {t : T} {ik : IK} {its : List E} {body : List S} : W (ex cl (.for_ t ik its body) ρ h) Q X = W (evs cl its ρ h) (fun vs h1 => KL cl t body ρ h1 Q X (itsOf ik vs h1)) (fun x h1 => Q (.xc x ρ) h1) := by
  rw [ex, W_lift]
  congr 1
  funext vs h1
  cases itsOf ik vs h1 with
  | none => simp [W, KL]
  | some i =>
    simp [KL]
    rfl
theorem KL_of {t : T} {body : List S} {i : Its} (w : W (forL i.g (forStep cl t body) i.xs ρ h) Q X) : KL cl t body ρ h Q X (some i) := ⟨i, rfl, w⟩
/-- a round's end -/
def KR (N : Env → PH → Prop) (Q : Fl → PH → Prop) : Fl → PH → Prop
  | .nx ρ, h => N ρ h
  | .ct ρ, h => N ρ h
  | .bk ρ, h => Q (.nx ρ) h
  | .rt v, h => Q (.rt v) h
  | .xc x ρ, h => Q (.xc x ρ) h
@[simp] theorem KR_nx {N : Env → PH → Prop} {Q : Fl → PH → Prop} {ρ : Env} {h : PH} : KR N Q (.nx ρ) h = N ρ h := rfl
@[simp] theorem KR_ct {N : Env → PH → Prop} {Q : Fl → PH → Prop} {ρ : Env} {h : PH} : KR N Q (.ct ρ) h = N ρ h := rfl
@[simp] theorem KR_bk {N : Env → PH → Prop} {Q : Fl → PH → Prop} {ρ : Env} {h : PH} : KR N Q (.bk ρ) h = Q (.nx ρ) h := rfl
@[simp] theorem KR_rt {N : Env → PH → Prop} {Q : Fl → PH → Prop} {v : PV} {h : PH} : KR N Q (.rt v) h = Q (.rt v) h := rfl
@[simp] theorem KR_xc {N : Env → PH → Prop} {Q : Fl → PH → Prop} {x : PX} {ρ : Env} {h : PH} : KR N Q (.xc x ρ) h = Q (.xc x ρ) h := rfl
/-- for by an invariant over what is left -/
theorem W_forL {g : Gd} {st : PV → Env → PH → R Fl} (I : List PV → Env → PH → Prop)
    (s : ∀ x r ρ h, I (x :: r) ρ h → okG g h = true ∧ W (st x ρ h) (KR (I r) Q) X) (e : ∀ ρ h, I [] ρ h → okG g h = true ∧ Q (.nx ρ) h) :
    ∀ (xs : List PV) (ρ : Env) (h : PH), I xs ρ h → W (forL g st xs ρ h) Q X
  | [], ρ, h, i => by
    obtain ⟨ok, q⟩ := e ρ h i
    rw [forL, if_pos ok]
    exact q
  | x :: r, ρ, h, i => by
    obtain ⟨ok, w⟩ := s x r ρ h i
    rw [forL, if_pos ok, W_bind]
    refine w.mono (fun f h1 k => ?_) fun x h1 k => k
    cases f with
    | nx ρ1 => exact W_forL I s e r ρ1 h1 k
    | ct ρ1 => exact W_forL I s e r ρ1 h1 k
    | bk ρ1 => exact k
    | rt v => exact k
    | xc x ρ1 => exact k
@[simp] theorem W_step {i : Nat} {body : List S} {x : PV} : W (forStep cl (.nm i) body x ρ h) Q X = W (exs cl body (ρ.set i (some x)) h) Q X := by rw [forStep_nm]
theorem W_step2 {t : T} {body : List S} {x : PV} : W (forStep cl t body x ρ h) Q X = KO (bindT h t x ρ) fun ρ1 => W (exs cl body ρ1 h) Q X := by
  unfold forStep
  cases bindT h t x ρ <;> rfl
/-- while by an invariant with a measure -/
theorem W_while {c : E} {body : List S} (I : Nat → Env → PH → Prop)
    (s : ∀ n ρ h, I n ρ h → W (tst cl c ρ h) (fun b h1 => if b then W (exs cl body ρ h1) (KR (fun ρ1 h2 => ∃ m, m < n ∧ I m ρ1 h2) Q) X else Q (.nx ρ) h1) (fun x h1 => Q (.xc x ρ) h1)) :
    ∀ (n k : Nat) (ρ : Env) (h : PH), n < k → I n ρ h → W (whL (fun ρ1 h1 => tst cl c ρ1 h1) (fun ρ1 h1 => exs cl body ρ1 h1) k ρ h) Q X
  | _, 0, _, _, l, _ => absurd l (Nat.not_lt_zero _)
  | n, k + 1, ρ, h, l, i => by
    rw [whL, W_lift]
    refine (s n ρ h i).mono (fun b h1 w => ?_) fun x h1 z => z
    cases b with
    | false => exact (by simpa using w : Q (.nx ρ) h1)
    | true =>
      simp only [if_true] at w ⊢
      rw [W_bind]
      refine w.mono (fun f h2 q => ?_) fun x h1 z => z
      cases f with
      | nx ρ1 =>
        obtain ⟨m, lm, im⟩ := q
        exact W_while I s m k ρ1 h2 (by omega) im
      | ct ρ1 =>
        obtain ⟨m, lm, im⟩ := q
        exact W_while I s m k ρ1 h2 (by omega) im
      | bk ρ1 => exact q
      | rt v => exact q
      | xc x ρ1 => exact q
theorem W_whl {c : E} {body : List S} : W (ex cl (.while_ c body) ρ h) Q X = W (whL (fun ρ1 h1 => tst cl c ρ1 h1) (fun ρ1 h1 => exs cl body ρ1 h1) wfuel ρ h) Q X := by rw [ex]
/-- try -/
def KT (cl : Cl) (ks : List String) (suite : List S) (Q : Fl → PH → Prop) (X : EQ) : Fl → PH → Prop
  | .nx ρ, h => Q (.nx ρ) h
  | .rt v, h => Q (.rt v) h
  | .bk ρ, h => Q (.bk ρ) h
  | .ct ρ, h => Q (.ct ρ) h
  | .xc x ρ, h => if x.cls ∈ ks then W (noxF (exs cl suite ρ h)) Q X else Q (.xc x ρ) h
@[simp] theorem KT_nx {ks : List String} {suite : List S} : KT cl ks suite Q X (.nx ρ) h = Q (.nx ρ) h := rfl
@[simp] theorem KT_rt {ks : List String} {suite : List S} {v : PV} : KT cl ks suite Q X (.rt v) h = Q (.rt v) h := rfl
@[simp] theorem KT_xc {ks : List String} {suite : List S} {x : PX} : KT cl ks suite Q X (.xc x ρ) h = if x.cls ∈ ks then W (noxF (exs cl suite ρ h)) Q X else Q (.xc x ρ) h := rfl
@[simp] theorem W_try {body : List S} {ks : List String} {suite : List S} : W (ex cl (.try_ body ks suite) ρ h) Q X = W (exs cl body ρ h) (KT cl ks suite Q X) X := by
  rw [ex, W_bind]
  congr 1
  funext f h1
  cases f with
  | xc x ρ1 =>
    simp only [KT]
    split <;> rfl
  | _ => rfl
def KN (Q : Fl → PH → Prop) : Fl → PH → Prop
  | .xc _ _, _ => False
  | f, h => Q f h
@[simp] theorem W_nox {r : R Fl} : W (noxF r) Q X = W r (KN Q) no := by
  cases r with
  | ok f h => cases f <;> rfl
  | exc x h => rfl
  | bad => rfl
@[simp] theorem KN_nx : KN Q (.nx ρ) h = Q (.nx ρ) h := rfl
@[simp] theorem KN_rt {v : PV} : KN Q (.rt v) h = Q (.rt v) h := rfl
end
/-! ### expressions -/
section
variable {cl : Cl} {ρ : Env} {h : PH} {Q : PV → PH → Prop} {X : EQ}
@[simp] theorem W_v {i : Nat} : W (ev cl (.v i) ρ h) Q X = KO (ρ[i]?.bind id) fun v => Q v h := by
  rw [ev]
  cases ρ[i]? with
  | none => rfl
  | some o => cases o <;> rfl
@[simp] theorem W_k {c : PV} : W (ev cl (.k c) ρ h) Q X = Q c h := by rw [ev]; rfl
@[simp] theorem W_bop {o : BOp} {a b : E} : W (ev cl (.bop o a b) ρ h) Q X = W (ev cl a ρ h) (fun x h1 => W (ev cl b ρ h1) (fun y h2 => W (bopV o x y h2) Q X) X) X := by
  rw [ev]; simp only [W_bind]
@[simp] theorem W_neg {i : Int} : W (ev cl (.neg (.k (.int i))) ρ h) Q X = Q (.int (-i)) h := by
  rw [ev, ev]; rfl
@[simp] theorem W_nt {a : E} : W (ev cl (.nt a) ρ h) Q X = W (ev cl a ρ h) (fun x h1 => KO (tru x h1) fun b => Q (.bl (!b)) h1) X := by
  rw [ev]; simp only [W_bind]
  congr 1
  funext x h1
  unfold truR
  cases tru x h1 <;> rfl
def KA (cl : Cl) (b : E) (ρ : Env) (Q : PV → PH → Prop) (X : EQ) (x : PV) (h : PH) : Bool → Prop
  | true => W (ev cl b ρ h) Q X
  | false => Q x h
@[simp] theorem KA_t {b : E} {x : PV} : KA cl b ρ Q X x h true = W (ev cl b ρ h) Q X := rfl
@[simp] theorem KA_f {b : E} {x : PV} : KA cl b ρ Q X x h false = Q x h := rfl
@[simp] theorem W_and {a b : E} : W (ev cl (.and a b) ρ h) Q X = W (ev cl a ρ h) (fun x h1 => KO (tru x h1) (KA cl b ρ Q X x h1)) X := by
  rw [ev]; simp only [W_bind]
  congr 1
  funext x h1
  unfold truR
  cases tru x h1 with
  | none => rfl
  | some t => cases t <;> rfl
@[simp] theorem W_or {a b : E} : W (ev cl (.or a b) ρ h) Q X = W (ev cl a ρ h) (fun x h1 => KO (tru x h1) fun t => KA cl b ρ Q X x h1 (!t)) X := by
  rw [ev]; simp only [W_bind]
  congr 1
  funext x h1
  unfold truR
  cases tru x h1 with
  | none => rfl
  | some t => cases t <;> rfl
@[simp] theorem W_cmp {o : COp} {a b : E} : W (ev cl (.cmp o a b) ρ h) Q X = W (ev cl a ρ h) (fun x h1 => W (ev cl b ρ h1) (fun y h2 => W (cmpV o x y h2) Q X) X) X := by
  rw [ev]; simp only [W_bind]
def KTu (x : PV) (Q : List PV → Prop) : Prop := match x with
  | .tup xs => Q xs
  | _ => False
@[simp] theorem KTu_tup {xs : List PV} {Q : List PV → Prop} : KTu (.tup xs) Q = Q xs := rfl
def KC (cl : Cl) (o : COp) (y : PV) (c : E) (ρ : Env) (Q : PV → PH → Prop) (X : EQ) : PV → PH → Prop
  | .bl true, h => W (ev cl c ρ h) (fun z h1 => W (cmpV o y z h1) Q X) X
  | .bl false, h => Q (.bl false) h
  | _, _ => False
@[simp] theorem KC_t {o : COp} {y : PV} {c : E} : KC cl o y c ρ Q X (.bl true) h = W (ev cl c ρ h) (fun z h1 => W (cmpV o y z h1) Q X) X := rfl
@[simp] theorem KC_f {o : COp} {y : PV} {c : E} : KC cl o y c ρ Q X (.bl false) h = Q (.bl false) h := rfl
@[simp] theorem W_chain {o o' : COp} {a b c : E} : W (ev cl (.chain o o' a b c) ρ h) Q X = W (ev cl a ρ h) (fun x h1 => W (ev cl b ρ h1) (fun y h2 => W (cmpV o x y h2) (KC cl o' y c ρ Q X) X) X) X := by
  rw [ev]; simp only [W_bind]
  congr 1
  funext x h1
  congr 1
  funext y h2
  congr 1
  funext r h3
  unfold KC
  split
  · rw [W_bind]
  · rfl
  · next n1 n2 =>
    show False = _
    cases r with
    | bl b => cases b with
      | true => exact absurd rfl n1
      | false => exact absurd rfl n2
    | _ => rfl
def KJ (cl : Cl) (a b : E) (ρ : Env) (Q : PV → PH → Prop) (X : EQ) (h : PH) : Bool → Prop
  | true => W (ev cl a ρ h) Q X
  | false => W (ev cl b ρ h) Q X
@[simp] theorem KJ_t {a b : E} : KJ cl a b ρ Q X h true = W (ev cl a ρ h) Q X := rfl
@[simp] theorem KJ_f {a b : E} : KJ cl a b ρ Q X h false = W (ev cl b ρ h) Q X := rfl
@[simp] theorem W_eite {c a b : E} : W (ev cl (.ite c a b) ρ h) Q X = W (ev cl c ρ h) (fun x h1 => KO (tru x h1) (KJ cl a b ρ Q X h1)) X := by
  rw [ev]; simp only [W_bind]
  congr 1
  funext x h1
  unfold truR
  cases tru x h1 with
  | none => rfl
  | some t => cases t <;> rfl
@[simp] theorem W_cal {f : String} {as : List E} : W (ev cl (.call f as) ρ h) Q X = W (evs cl as ρ h) (fun vs h1 => W (cl (.f f) vs h1) Q X) X := by
  rw [ev, W_bind]
@[simp] theorem W_blt {f : String} {as : List E} : W (ev cl (.blt f as) ρ h) Q X = W (evs cl as ρ h) (fun vs h1 => W (bltV f vs h1) Q X) X := by
  rw [ev, W_bind]
@[simp] theorem W_isi {a : E} {ts : List String} : W (ev cl (.isi a ts) ρ h) Q X = W (ev cl a ρ h) (fun x h1 => KO (tyN x h1) fun t => Q (.bl (decide (t ∈ ts))) h1) X := by
  rw [ev, W_bind]
  congr 1
  funext x h1
  cases tyN x h1 <;> rfl
@[simp] theorem W_rev {a : E} : W (ev cl (.rev a) ρ h) Q X = W (ev cl a ρ h) (fun x h1 => KTu x fun xs => Q (.tup xs.reverse) h1) X := by
  rw [ev, W_bind]
  congr 1
  funext x h1
  cases x <;> rfl
@[simp] theorem W_gin {neg : Bool} {kvs : List (PV × PV)} {a : E} : W (ev cl (.gin neg kvs a) ρ h) Q X = W (ev cl a ρ h) (fun x h1 => isS x = true ∧ Q (.bl (if neg then !(lookK x kvs).isSome else (lookK x kvs).isSome)) h1) X := by
  rw [ev, W_bind]
  congr 1
  funext x h1
  cases isS x
  · simp
  · simp
@[simp] theorem W_gget {kvs : List (PV × PV)} {a : E} : W (ev cl (.gget kvs a) ρ h) Q X = W (ev cl a ρ h) (fun x h1 => isS x = true ∧ KO (lookK x kvs) fun v => Q v h1) X := by
  rw [ev, W_bind]
  congr 1
  funext x h1
  cases isS x
  · simp
  · simp only [if_true, true_and]
    cases lookK x kvs <;> rfl
@[simp] theorem W_callk {f : String} {ix : List Nat} {as : List E} : W (ev cl (.callk f ix as) ρ h) Q X = W (evs cl as ρ h) (fun vs h1 => KO (permV ix vs) fun us => W (cl (.f f) us h1) Q X) X := by
  rw [ev, W_bind]
  congr 1
  funext vs h1
  cases permV ix vs <;> rfl
@[simp] theorem W_mth {m : String} {o : E} {as : List E} : W (ev cl (.mth m o as) ρ h) Q X = W (ev cl o ρ h) (fun x h1 => mok m x h1 = true ∧ W (evs cl as ρ h1) (fun vs h2 => W (mthV m x vs h2) Q X) X) X := by
  rw [ev, W_bind]
  congr 1
  funext x h1
  cases mok m x h1
  · simp
  · simp only [if_true, true_and, W_bind]
@[simp] theorem W_idx {a b : E} : W (ev cl (.idx a b) ρ h) Q X = W (ev cl a ρ h) (fun x h1 => W (ev cl b ρ h1) (fun y h2 => W (idxV x y h2) Q X) X) X := by
  rw [ev]; simp only [W_bind]
@[simp] theorem W_slc {a : E} {lo hi : Option E} : W (ev cl (.slc a lo hi) ρ h) Q X = W (ev cl a ρ h) (fun x h1 => W (evo cl lo ρ h1) (fun i h2 => W (evo cl hi ρ h2) (fun j h3 => W (slcV x i j h3) Q X) X) X) X := by
  rw [ev]; simp only [W_bind]
@[simp] theorem W_evo0 {Q : Option Int → PH → Prop} : W (evo cl none ρ h) Q X = Q none h := by rw [evo]; rfl
def KOI (Q : Option Int → PH → Prop) : PV → PH → Prop
  | .int i, h => Q (some i) h
  | _, _ => False
@[simp] theorem KOI_int {Q : Option Int → PH → Prop} {i : Int} : KOI Q (.int i) h = Q (some i) h := rfl
@[simp] theorem W_evo1 {e : E} {Q : Option Int → PH → Prop} : W (evo cl (some e) ρ h) Q X = W (ev cl e ρ h) (KOI Q) X := by
  rw [evo, W_bind]
  congr 1
  funext x h1
  cases x <;> rfl
@[simp] theorem W_tup {es : List E} : W (ev cl (.tup es) ρ h) Q X = W (evs cl es ρ h) (fun vs h1 => vs.length ≤ szl ∧ Q (.tup vs) h1) X := by
  rw [ev, W_bind]
  congr 1
  funext x h1
  split
  · next h => simp [W, h]
  · next h => simp [W, h]
@[simp] theorem W_lst {es : List E} : W (ev cl (.lst es) ρ h) Q X = W (evs cl es ρ h) (fun vs h1 => vs.length ≤ szl ∧ Q (.ref h1.length) (h1 ++ [.lst vs])) X := by
  rw [ev, W_bind]
  congr 1
  funext x h1
  split
  · next h => simp [W, h]
  · next h => simp [W, h]
@[simp] theorem W_dct : W (ev cl (.dct [] []) ρ h) Q X = Q (.ref h.length) (h ++ [.dic []]) := by
  rw [ev]; rfl
@[simp] theorem W_evs0 {Q : List PV → PH → Prop} : W (evs cl [] ρ h) Q X = Q [] h := by rw [evs]; rfl
@[simp] theorem W_evs1 {e : E} {es : List E} {Q : List PV → PH → Prop} : W (evs cl (e :: es) ρ h) Q X = W (ev cl e ρ h) (fun x h1 => W (evs cl es ρ h1) (fun xs h2 => Q (x :: xs) h2) X) X := by
  rw [evs]; simp only [W_bind]; rfl
/-- a comprehension: what is walked -/
def KLC (cl : Cl) (elt : E) (t : T) (cs : List E) (ρ : Env) (h : PH) (Q : PV → PH → Prop) (X : EQ) (o : Option Its) : Prop :=
  ∃ i, o = some i ∧ i.xs.length < szl ∧ W (lcL i.g (lcStep cl elt t cs ρ) i.xs h) (fun ys h1 => Q (.ref h1.length) (h1 ++ [.lst ys])) X
@[simp] theorem W_lc {elt : E} {t : T} {ik : IK} {its cs : List E} {own : List Nat} : W (ev cl (.lc elt t ik its cs own) ρ h) Q X = W (evs cl its ρ h) (fun vs h1 => KLC cl elt t cs (wipeE ρ own) h1 Q X (itsOf ik vs h1)) X := by
  rw [ev, W_bind]
  congr 1
  funext vs h1
  cases itsOf ik vs h1 with
  | none => simp [W, KLC]
  | some i =>
    by_cases l : i.xs.length < szl
    · simp only [KLC, l, if_true, Option.some.injEq, exists_eq_left', true_and, W_bind]
      rfl
    · simp [KLC, l, W]
theorem KLC_of {elt : E} {t : T} {cs : List E} {i : Its} (l : i.xs.length < szl) (w : W (lcL i.g (lcStep cl elt t cs ρ) i.xs h) (fun ys h1 => Q (.ref h1.length) (h1 ++ [.lst ys])) X) : KLC cl elt t cs ρ h Q X (some i) := ⟨i, rfl, l, w⟩
@[simp] theorem W_noxR {α : Type} {r : R α} {Q : α → PH → Prop} {X : EQ} : W (nox r) Q X = W r Q no := by
  cases r <;> rfl
/-- a comprehension by an invariant: what stands, what is left -/
theorem W_lcL {g : Gd} {st : PV → PH → R (Option PV)} {Q : List PV → PH → Prop} (I : List PV → List PV → PH → Prop)
    (s : ∀ ys x r h, I ys (x :: r) h → okG g h = true ∧ W (st x h) (fun o h1 => I (ys ++ o.toList) r h1) no) (e : ∀ ys h, I ys [] h → okG g h = true ∧ Q ys h) :
    ∀ (xs : List PV) (h : PH), I [] xs h → W (lcL g st xs h) Q X := by
  suffices H : ∀ (xs ys : List PV) (h : PH), I ys xs h → W (lcL g st xs h) (fun zs h1 => Q (ys ++ zs) h1) X from fun xs h i => H xs [] h i
  intro xs
  induction xs with
  | nil =>
    intro ys h i
    obtain ⟨ok, q⟩ := e ys h i
    rw [lcL, if_pos ok, W_ok, List.append_nil]
    exact q
  | cons x r ih =>
    intro ys h i
    obtain ⟨ok, w⟩ := s ys x r h i
    rw [lcL, if_pos ok, W_bind, W_noxR]
    refine w.mono (fun o h1 k => ?_) fun x h1 z => z.elim
    rw [W_bind]
    refine (ih _ h1 k).mono (fun zs h2 q => ?_) fun x h1 z => z
    cases o with
    | none => simpa [W] using q
    | some y => simpa [W] using q
@[simp] theorem W_lcStep {elt : E} {i : Nat} {x : PV} {Q : Option PV → PH → Prop} : W (lcStep cl elt (.nm i) [] ρ x h) Q X = W (ev cl elt (ρ.set i (some x)) h) (fun y h1 => Q (some y) h1) X := by
  unfold lcStep
  simp only [bindT, evc, bind_ok, if_true, W_bind]
  rfl
theorem W_lcStep2 {elt : E} {t : T} {x : PV} {Q : Option PV → PH → Prop} : W (lcStep cl elt t [] ρ x h) Q X = KO (bindT h t x ρ) fun ρ1 => W (ev cl elt ρ1 h) (fun y h1 => Q (some y) h1) X := by
  unfold lcStep
  cases bindT h t x ρ with
  | none => rfl
  | some ρ1 =>
    simp only [evc, bind_ok, if_true, W_bind]
    rfl
def KM (cl : Cl) (elt : E) (ρ : Env) (Q : Option PV → PH → Prop) (X : EQ) (h : PH) : Bool → Prop
  | true => W (ev cl elt ρ h) (fun y h1 => Q (some y) h1) X
  | false => Q none h
@[simp] theorem KM_t {elt : E} {Q : Option PV → PH → Prop} : KM cl elt ρ Q X h true = W (ev cl elt ρ h) (fun y h1 => Q (some y) h1) X := rfl
@[simp] theorem KM_f {elt : E} {Q : Option PV → PH → Prop} : KM cl elt ρ Q X h false = Q none h := rfl
theorem W_lcStepC {elt c : E} {t : T} {x : PV} {Q : Option PV → PH → Prop} : W (lcStep cl elt t [c] ρ x h) Q X = KO (bindT h t x ρ) fun ρ1 => W (ev cl c ρ1 h) (fun z h1 => KO (tru z h1) (KM cl elt ρ1 Q X h1)) X := by
  unfold lcStep
  cases bindT h t x ρ with
  | none => rfl
  | some ρ1 =>
    simp only [evc, W_bind]
    show _ = W _ _ _
    congr 1
    funext z h1
    unfold truR
    cases tru z h1 with
    | none => rfl
    | some b =>
      cases b
      · rfl
      · simp only [W_ok, if_true, W_bind, KO, KM]
end
@[simp] theorem bindT_nm {h : PH} {i : Nat} {v : PV} {ρ : Env} : bindT h (.nm i) v ρ = some (ρ.set i (some v)) := by simp [bindT]
@[simp] theorem bindT_tup {h : PH} {ts : List T} {xs : List PV} {ρ : Env} : bindT h (.tup ts) (.tup xs) ρ = bindTs h ts xs ρ := by simp [bindT]
@[simp] theorem bindTs_nil {h : PH} {ρ : Env} : bindTs h [] [] ρ = some ρ := by simp [bindTs]
@[simp] theorem bindTs_cons {h : PH} {i : Nat} {ts : List T} {x : PV} {xs : List PV} {ρ : Env} : bindTs h (.nm i :: ts) (x :: xs) ρ = bindTs h ts xs (ρ.set i (some x)) := by simp [bindTs]
@[simp] theorem setAll_nil {ρ : Env} : setAll [] [] ρ = some ρ := rfl
@[simp] theorem setAll_cons {i : Nat} {is : List Nat} {v : PV} {vs : List PV} {ρ : Env} : setAll (i :: is) (v :: vs) ρ = setAll is vs (ρ.set i (some v)) := rfl
@[simp] theorem wipe_nil {ρ : Env} : wipeE ρ [] = ρ := rfl
@[simp] theorem wipe_cons {ρ : Env} {i : Nat} {r : List Nat} : wipeE ρ (i :: r) = wipeE (ρ.set i none) r := rfl
@[simp] theorem its_tup {xs : List PV} {h : PH} : itsOf .val [.tup xs] h = some ⟨xs, []⟩ := rfl
theorem its_lst {n : Nat} {xs : List PV} {h : PH} (e : h[n]? = some (.lst xs)) : itsOf .val [.ref n] h = some ⟨xs, [(n, .lst xs)]⟩ := by simp [itsOf, ofVal, e]
@[simp] theorem okG_nil {h : PH} : okG [] h = true := rfl
theorem okG_one {h : PH} {n : Nat} {o : PO} (e : h[n]? = some o) : okG [(n, o)] h = true := by simp [okG, e]
@[simp] theorem tyn_bl {b : Bool} {h : PH} : tyN (.bl b) h = some "bool" := rfl
@[simp] theorem tyn_int {b : Int} {h : PH} : tyN (.int b) h = some "int" := rfl
@[simp] theorem tyn_str {b : List Char} {h : PH} : tyN (.str b) h = some "str" := rfl
@[simp] theorem tyn_non {h : PH} : tyN .non h = some "NoneType" := rfl
@[simp] theorem tyn_tup {b : List PV} {h : PH} : tyN (.tup b) h = some "tuple" := rfl
theorem get_app {h g : PH} {n : Nat} {o : PO} (e : h[n]? = some o) : (h ++ g)[n]? = some o := by rw [List.getElem?_append_left (List.getElem?_eq_some_iff.mp e).1]; exact e
/-! ### operators -/
@[simp] theorem den_int {h : PH} {n : Nat} {i : Int} : den h n (.int i) = some (.int i) := by cases n <;> rfl
@[simp] theorem den_str {h : PH} {n : Nat} {s : List Char} : den h n (.str s) = some (.str s) := by cases n <;> rfl
@[simp] theorem den_bl {h : PH} {n : Nat} {b : Bool} : den h n (.bl b) = some (.bl b) := by cases n <;> rfl
@[simp] theorem den_non {h : PH} {n : Nat} : den h n .non = some .non := by cases n <;> rfl
theorem den_tup {h : PH} {n : Nat} {xs : List PV} : den h (n + 1) (.tup xs) = (mapO (den h n) xs).map .tup := rfl
@[simp] theorem eqS {h : PH} {a b : List Char} : eqV (.str a) (.str b) h = some (decide (a = b)) := by
  unfold eqV
  simp [dicStr, empEq, emp, den, D.eqv]
  rw [Bool.eq_iff_iff]
  simp
@[simp] theorem eqI {h : PH} {a b : Int} : eqV (.int a) (.int b) h = some (decide (a = b)) := by
  unfold eqV
  simp [dicStr, empEq, emp, den, D.eqv]
  rw [Bool.eq_iff_iff]
  simp
@[simp] theorem eqB {h : PH} {a b : Bool} : eqV (.bl a) (.bl b) h = some (decide (a = b)) := by
  unfold eqV
  cases a <;> cases b <;> simp [dicStr, empEq, emp, den, D.eqv]
@[simp] theorem W_eq {x y : PV} {h : PH} {Q : PV → PH → Prop} {X : EQ} : W (cmpV .eq x y h) Q X = KO (eqV x y h) fun b => Q (.bl b) h := by
  simp only [cmpV]
  cases eqV x y h <;> rfl
@[simp] theorem W_ne {x y : PV} {h : PH} {Q : PV → PH → Prop} {X : EQ} : W (cmpV .ne x y h) Q X = KO (eqV x y h) fun b => Q (.bl (!b)) h := by
  simp only [cmpV]
  cases eqV x y h <;> rfl
@[simp] theorem W_in {x y : PV} {h : PH} {Q : PV → PH → Prop} {X : EQ} : W (cmpV .isin x y h) Q X = KO (inV x y h) fun b => Q (.bl b) h := by
  simp only [cmpV]
  cases inV x y h <;> rfl
@[simp] theorem W_notin {x y : PV} {h : PH} {Q : PV → PH → Prop} {X : EQ} : W (cmpV .notin x y h) Q X = KO (inV x y h) fun b => Q (.bl (!b)) h := by
  simp only [cmpV]
  cases inV x y h <;> rfl
section
variable {h : PH} {Q : PV → PH → Prop} {X : EQ}
@[simp] theorem W_is {x : PV} : W (cmpV .is x .non h) Q X = Q (.bl (decide (x = .non))) h := rfl
@[simp] theorem W_isnot {x : PV} : W (cmpV .isnot x .non h) Q X = Q (.bl (!decide (x = .non))) h := rfl
@[simp] theorem W_lt {i j : Int} : W (cmpV .lt (.int i) (.int j) h) Q X = Q (.bl (decide (i < j))) h := rfl
@[simp] theorem W_le {i j : Int} : W (cmpV .le (.int i) (.int j) h) Q X = Q (.bl (decide (i ≤ j))) h := rfl
@[simp] theorem W_gt {i j : Int} : W (cmpV .gt (.int i) (.int j) h) Q X = Q (.bl (decide (j < i))) h := rfl
@[simp] theorem W_ge {i j : Int} : W (cmpV .ge (.int i) (.int j) h) Q X = Q (.bl (decide (j ≤ i))) h := rfl
@[simp] theorem W_add {i j : Int} : W (bopV .add (.int i) (.int j) h) Q X = Q (.int (i + j)) h := rfl
@[simp] theorem W_sub {i j : Int} : W (bopV .sub (.int i) (.int j) h) Q X = Q (.int (i - j)) h := rfl
@[simp] theorem W_mul {i j : Int} : W (bopV .mul (.int i) (.int j) h) Q X = (mulOk i j = true ∧ Q (.int (i * j)) h) := by
  simp only [bopV]
  split
  · next h => simp [W, h]
  · next h => simp [W, h]
@[simp] theorem W_fdiv {i j : Int} : W (bopV .fdiv (.int i) (.int j) h) Q X = ((0 < j ∧ j.natAbs.log2 < 9000) ∧ Q (.int (i / j)) h) := by
  simp only [bopV]
  split
  · next h => simp [W, h]
  · next h => simp [W, h]
@[simp] theorem W_mod {i j : Int} : W (bopV .mod (.int i) (.int j) h) Q X = (0 < j ∧ Q (.int (i % j)) h) := by
  simp only [bopV]
  split
  · next h => simp [W, h]
  · next h => simp [W, h]
@[simp] theorem W_pow {i j : Int} : W (bopV .pow (.int i) (.int j) h) Q X = ((0 ≤ j ∧ (i.natAbs.log2 + 1) * j.toNat ≤ 134217728) ∧ Q (.int (i ^ j.toNat)) h) := by
  simp only [bopV]
  split
  · next h => simp [W, h]
  · next h => simp [W, h]
theorem W_pow_b {i j r : Int} (e : i ^ j.toNat = r) (d : (0 ≤ j ∧ (i.natAbs.log2 + 1) * j.toNat ≤ 134217728)) : W (bopV .pow (.int i) (.int j) h) Q X = Q (.int r) h := by
  rw [W_pow, e, eq_true d, true_and]
@[simp] theorem W_cat {a b : List Char} : W (bopV .add (.str a) (.str b) h) Q X = (a.length + b.length ≤ szl ∧ Q (.str (a ++ b)) h) := by
  simp only [bopV]
  split
  · next h => simp [W, h]
  · next h => simp [W, h]
@[simp] theorem W_tadd {a b : List PV} : W (bopV .add (.tup a) (.tup b) h) Q X = (a.length + b.length ≤ szl ∧ Q (.tup (a ++ b)) h) := by
  simp only [bopV]
  split
  · next h => simp [W, h]
  · next h => simp [W, h]
theorem W_ladd {a b : Nat} {xs ys : List PV} (ha : h[a]? = some (.lst xs)) (hb : h[b]? = some (.lst ys)) : W (bopV .add (.ref a) (.ref b) h) Q X = (xs.length + ys.length ≤ szl ∧ Q (.ref h.length) (h ++ [.lst (xs ++ ys)])) := by
  simp only [bopV, ha, hb]
  split
  · next h => simp [W, h]
  · next h => simp [W, h]
/-- built-ins -/
@[simp] theorem W_len {v : PV} : W (bltV "len" [v] h) Q X = KO (lenOf v h) fun k => Q (.int (k : Nat)) h := by
  simp only [bltV]
  cases lenOf v h <;> rfl
@[simp] theorem len_tup {xs : List PV} : lenOf (.tup xs) h = some xs.length := rfl
theorem len_str {s : List Char} (l : s.length ≤ szl) : lenOf (.str s) h = some s.length := by simp [lenOf, l]
theorem len_lst {n : Nat} {xs : List PV} (e : h[n]? = some (.lst xs)) : lenOf (.ref n) h = some xs.length := by simp [lenOf, e]
@[simp] theorem W_int {i : Int} : W (bltV "int" [.int i] h) Q X = Q (.int i) h := rfl
@[simp] theorem W_intb {b : Bool} : W (bltV "int" [.bl b] h) Q X = Q (.int (if b then 1 else 0)) h := rfl
@[simp] theorem W_max {i j : Int} : W (bltV "max" [.int i, .int j] h) Q X = Q (.int (if j > i then j else i)) h := rfl
@[simp] theorem W_min {i j : Int} : W (bltV "min" [.int i, .int j] h) Q X = Q (.int (if j < i then j else i)) h := rfl
@[simp] theorem W_tuple {v : PV} : W (bltV "tuple" [v] h) Q X = KO (seqOf v h) fun xs => Q (.tup xs) h := by
  simp only [bltV]
  cases seqOf v h <;> rfl
@[simp] theorem W_list {v : PV} : W (bltV "list" [v] h) Q X = KO (lisOf v h) fun xs => Q (.ref h.length) (h ++ [.lst xs]) := by
  simp only [bltV]
  cases lisOf v h <;> rfl
@[simp] theorem lis_tup {xs : List PV} : lisOf (.tup xs) h = some xs := rfl
theorem lis_str {s : List Char} (l : s.length ≤ szl) : lisOf (.str s) h = some (s.map fun c => .str [c]) := by simp [lisOf, l]
theorem lis_lst {n : Nat} {xs : List PV} (e : h[n]? = some (.lst xs)) : lisOf (.ref n) h = some xs := by simp [lisOf, seqOf, e]
theorem W_ssetX {s : List Char} (l : s.length < 63) : W (bltV "sorted set" [.str s] h) Q X = Q (.ref h.length) (h ++ [.lst ((sortC s).map fun c => .str [c])]) := by
  simp only [bltV, l, if_true]
  rfl
@[simp] theorem W_sum {v : PV} : W (bltV "sum" [v] h) Q X = KO ((lstOf v h).bind intsOf) fun ns => Q (.int (sumL ns)) h := by
  simp only [bltV]
  cases (lstOf v h).bind intsOf <;> rfl
theorem W_sset {n : Nat} {ns : List Int} (e : (lstOf (.ref n) h).bind intsOf = some ns) (l : ns.length < 63) : W (bltV "sorted set" [.ref n] h) Q X = Q (.ref h.length) (h ++ [.lst ((sortU ns).map .int)]) := by
  simp only [bltV, e, l, if_true]
  rfl
@[simp] theorem W_sorted {v : PV} : W (bltV "sorted" [v] h) Q X = KO ((lstOf v h).bind intsOf) fun ns => Q (.ref h.length) (h ++ [.lst ((sortI ns).map .int)]) := by
  simp only [bltV]
  cases (lstOf v h).bind intsOf <;> rfl
@[simp] theorem W_all {v : PV} : W (bltV "all" [v] h) Q X = KO ((lstOf v h).bind blsOf) fun ns => Q (.bl (ns.all id)) h := by
  simp only [bltV]
  cases (lstOf v h).bind blsOf <;> rfl
@[simp] theorem W_any {v : PV} : W (bltV "any" [v] h) Q X = KO ((lstOf v h).bind blsOf) fun ns => Q (.bl (ns.any id)) h := by
  simp only [bltV]
  cases (lstOf v h).bind blsOf <;> rfl
theorem W_repr {v : PV} {t : List Char} (e : shw h 60 v = some t) (l : t.length ≤ szl) : W (bltV "repr" [v] h) Q X = Q (.str t) h := by
  simp only [bltV, e, l, if_true]
  rfl
@[simp] theorem W_reprb {b : Bool} : W (bltV "repr" [.bl b] h) Q X = Q (.str (if b then ['T', 'r', 'u', 'e'] else ['F', 'a', 'l', 's', 'e'])) h := by
  refine W_repr (t := if b then ['T', 'r', 'u', 'e'] else ['F', 'a', 'l', 's', 'e']) rfl ?_
  cases b <;> decide
@[simp] theorem W_ti {xs : List PV} {i : Int} : W (idxV (.tup xs) (.int i) h) Q X = KO (atI xs i) fun v => Q v h := by
  simp only [idxV]
  cases atI xs i <;> rfl
theorem W_li {n : Nat} {xs : List PV} {i : Int} (e : h[n]? = some (.lst xs)) : W (idxV (.ref n) (.int i) h) Q X = KO (atI xs i) fun v => Q v h := by
  simp only [idxV, e]
  cases atI xs i <;> rfl
@[simp] theorem W_ts {xs : List PV} {lo hi : Option Int} : W (slcV (.tup xs) lo hi h) Q X = Q (.tup (cutL xs lo hi)) h := rfl
theorem W_ls {n : Nat} {xs : List PV} {lo hi : Option Int} (e : h[n]? = some (.lst xs)) : W (slcV (.ref n) lo hi h) Q X = Q (.ref h.length) (h ++ [.lst (cutL xs lo hi)]) := by
  simp only [slcV, e]; rfl
end
section
variable {h : PH} {Q : PV → PH → Prop} {X : EQ} {n : Nat} {xs : List PV}
theorem mok_l (e : h[n]? = some (.lst xs)) : mok "append" (.ref n) h = true ∧ mok "extend" (.ref n) h = true ∧ mok "pop" (.ref n) h = true := by
  simp [mok, isL, e]
theorem W_app {y : PV} (e : h[n]? = some (.lst xs)) : W (mthV "append" (.ref n) [y] h) Q X = (xs.length < szl ∧ Q .non (h.set n (.lst (xs ++ [y])))) := by
  show W (appV (.ref n) [y] h) Q X = _
  simp only [appV, e]
  by_cases l : xs.length < szl
  · simp [l]
  · simp [l]
theorem W_ext {k : Nat} {ys : List PV} (e : h[n]? = some (.lst xs)) (e2 : h[k]? = some (.lst ys)) : W (mthV "extend" (.ref n) [.ref k] h) Q X = (xs.length + ys.length ≤ szl ∧ Q .non (h.set n (.lst (xs ++ ys)))) := by
  show W (extV (.ref n) [.ref k] h) Q X = _
  simp only [extV, e, e2]
  by_cases l : xs.length + ys.length ≤ szl
  · simp [l]
  · simp [l]
theorem W_pop {y : PV} (e : h[n]? = some (.lst (xs ++ [y]))) : W (mthV "pop" (.ref n) [] h) Q X = Q y (h.set n (.lst xs)) := by
  show W (popV (.ref n) [] h) Q X = _
  simp only [popV, e]
  simp
end
/-- try .. except .. as -/
def KTA (cl : Cl) (ks : List String) (i : Nat) (suite : List S) (Q : Fl → PH → Prop) (X : EQ) : Fl → PH → Prop
  | .nx ρ, h => Q (.nx ρ) h
  | .rt v, h => Q (.rt v) h
  | .bk ρ, h => Q (.bk ρ) h
  | .ct ρ, h => Q (.ct ρ) h
  | .xc x ρ, h => if x.cls ∈ ks then W (unF i (exs cl suite (ρ.set i (some (.ref h.length))) (h ++ [.exn x.cls x.fs]))) Q X else Q (.xc x ρ) h
section
variable {cl : Cl} {ρ : Env} {h : PH} {Q : Fl → PH → Prop} {X : EQ} {ks : List String} {i : Nat} {suite : List S}
@[simp] theorem KTA_nx : KTA cl ks i suite Q X (.nx ρ) h = Q (.nx ρ) h := rfl
@[simp] theorem KTA_rt {v : PV} : KTA cl ks i suite Q X (.rt v) h = Q (.rt v) h := rfl
@[simp] theorem KTA_xc {x : PX} : KTA cl ks i suite Q X (.xc x ρ) h = if x.cls ∈ ks then W (unF i (exs cl suite (ρ.set i (some (.ref h.length))) (h ++ [.exn x.cls x.fs]))) Q X else Q (.xc x ρ) h := rfl
@[simp] theorem W_tryA {body : List S} : W (ex cl (.tryA body ks i suite) ρ h) Q X = W (exs cl body ρ h) (KTA cl ks i suite Q X) X := by
  rw [ex, W_bind]
  congr 1
  funext f h1
  cases f with
  | xc x ρ1 =>
    simp only [KTA]
    split <;> rfl
  | _ => rfl
def KU (i : Nat) (Q : Fl → PH → Prop) : Fl → PH → Prop
  | .nx ρ, h => Q (.nx (ρ.set i none)) h
  | .bk ρ, h => Q (.bk (ρ.set i none)) h
  | .ct ρ, h => Q (.ct (ρ.set i none)) h
  | .rt v, h => Q (.rt v) h
  | .xc _ _, _ => False
@[simp] theorem W_unF {r : R Fl} : W (unF i r) Q X = W r (KU i Q) no := by
  cases r with
  | ok f h => cases f <;> rfl
  | exc x h => rfl
  | bad => rfl
@[simp] theorem KU_nx : KU i Q (.nx ρ) h = Q (.nx (ρ.set i none)) h := rfl
@[simp] theorem KU_rt {v : PV} : KU i Q (.rt v) h = Q (.rt v) h := rfl
end
@[simp] theorem tru_bl {b : Bool} {h : PH} : tru (.bl b) h = some b := rfl
@[simp] theorem tru_int {i : Int} {h : PH} : tru (.int i) h = some (i != 0) := rfl
@[simp] theorem tru_non {h : PH} : tru .non h = some false := rfl
@[simp] theorem tru_tup {xs : List PV} {h : PH} : tru (.tup xs) h = some (!xs.isEmpty) := rfl
@[simp] theorem at0 {α : Type} {x : α} {r : List α} : atI (x :: r) 0 = some x := by
  unfold atI ixN
  simp
@[simp] theorem at1 {α : Type} {x y : α} {r : List α} : atI (x :: y :: r) 1 = some y := by
  unfold atI ixN
  have : (1 : Int) < ((x :: y :: r).length : Int) := by simp only [List.length_cons]; omega
  rw [if_pos (by decide), if_pos this]
  rfl
@[simp] theorem at2 {α : Type} {x y z : α} {r : List α} : atI (x :: y :: z :: r) 2 = some z := by
  unfold atI ixN
  have : (2 : Int) < ((x :: y :: z :: r).length : Int) := by simp only [List.length_cons]; omega
  rw [if_pos (by decide), if_pos this]
  rfl
/-! ### comprehensions of two parts -/
section
variable {cl : Cl} {ρ : Env} {h : PH} {X : EQ}
def lc2Step (cl : Cl) (elt : E) (t : T) (cs : List E) (ρ : Env) (t2 : T) (ik2 : IK) (its2 cs2 : List E) (own2 : List Nat) : Nat → PV → PH → R (List PV) := fun n x h2 => match bindT h2 t x ρ with
  | some ρ1 => (evc cl cs ρ1 h2).bind fun b h3 => if b then (evs cl its2 ρ1 h3).bind fun us h4 => match itsOf ik2 us h4 with
      | some i2 => if n + i2.xs.length < szl then lcL i2.g (lcStep cl elt t2 cs2 (wipeE ρ1 own2)) i2.xs h4 else .bad
      | none => .bad
    else .ok [] h3
  | none => .bad
def KLC2 (st : Nat → PV → PH → R (List PV)) (h : PH) (Q : PV → PH → Prop) (X : EQ) (o : Option Its) : Prop :=
  ∃ i, o = some i ∧ W (lcC i.g st 0 i.xs h) (fun ys h1 => Q (.ref h1.length) (h1 ++ [.lst ys])) X
@[simp] theorem W_lc2 {elt : E} {t : T} {ik : IK} {its cs : List E} {own : List Nat} {t2 : T} {ik2 : IK} {its2 cs2 : List E} {own2 : List Nat} {Q : PV → PH → Prop} : W (ev cl (.lc2 elt t ik its cs own t2 ik2 its2 cs2 own2) ρ h) Q X = W (evs cl its ρ h) (fun vs h1 => KLC2 (lc2Step cl elt t cs (wipeE ρ own) t2 ik2 its2 cs2 own2) h1 Q X (itsOf ik vs h1)) X := by
  rw [ev, W_bind]
  congr 1
  funext vs h1
  cases itsOf ik vs h1 with
  | none => simp [KLC2]
  | some i =>
    simp only [KLC2, Option.some.injEq, exists_eq_left', W_bind]
    rfl
theorem KLC2_of {st : Nat → PV → PH → R (List PV)} {i : Its} {Q : PV → PH → Prop} (w : W (lcC i.g st 0 i.xs h) (fun ys h1 => Q (.ref h1.length) (h1 ++ [.lst ys])) X) : KLC2 st h Q X (some i) := ⟨i, rfl, w⟩
def KLC3 (n : Nat) (st : PV → PH → R (Option PV)) (h : PH) (Q : List PV → PH → Prop) (X : EQ) (o : Option Its) : Prop :=
  ∃ i, o = some i ∧ n + i.xs.length < szl ∧ W (lcL i.g st i.xs h) Q X
@[simp] theorem W_lc2Step {elt : E} {i : Nat} {t2 : T} {ik2 : IK} {its2 cs2 : List E} {own2 : List Nat} {n : Nat} {x : PV} {Q : List PV → PH → Prop} : W (lc2Step cl elt (.nm i) [] ρ t2 ik2 its2 cs2 own2 n x h) Q X = W (evs cl its2 (ρ.set i (some x)) h) (fun us h1 => KLC3 n (lcStep cl elt t2 cs2 (wipeE (ρ.set i (some x)) own2)) h1 Q X (itsOf ik2 us h1)) X := by
  unfold lc2Step
  simp only [bindT, evc, bind_ok, if_true, W_bind]
  congr 1
  funext us h1
  cases itsOf ik2 us h1 with
  | none => simp [KLC3]
  | some j =>
    by_cases l : n + j.xs.length < szl
    · simp [KLC3, l]
    · simp [KLC3, l]
theorem KLC3_of {n : Nat} {st : PV → PH → R (Option PV)} {i : Its} {Q : List PV → PH → Prop} (l : n + i.xs.length < szl) (w : W (lcL i.g st i.xs h) Q X) : KLC3 n st h Q X (some i) := ⟨i, rfl, l, w⟩
theorem W_lcC {g : Gd} {st : Nat → PV → PH → R (List PV)} {Q : List PV → PH → Prop} (I : List PV → List PV → PH → Prop)
    (s : ∀ ys x r h, I ys (x :: r) h → okG g h = true ∧ W (st ys.length x h) (fun o h1 => I (ys ++ o) r h1) no) (e : ∀ ys h, I ys [] h → okG g h = true ∧ Q ys h) :
    ∀ (xs : List PV) (h : PH), I [] xs h → W (lcC g st 0 xs h) Q X := by
  suffices H : ∀ (xs ys : List PV) (h : PH), I ys xs h → W (lcC g st ys.length xs h) (fun zs h1 => Q (ys ++ zs) h1) X from fun xs h i => H xs [] h i
  intro xs
  induction xs with
  | nil =>
    intro ys h i
    obtain ⟨ok, q⟩ := e ys h i
    rw [lcC, if_pos ok, W_ok, List.append_nil]
    exact q
  | cons x r ih =>
    intro ys h i
    obtain ⟨ok, w⟩ := s ys x r h i
    rw [lcC, if_pos ok, W_bind, W_noxR]
    refine w.mono (fun o h1 k => ?_) fun x h1 z => z.elim
    rw [W_bind]
    have q := ih (ys ++ o) h1 k
    rw [List.length_append] at q
    refine q.mono (fun zs h2 q => ?_) fun x h1 z => z
    simpa using q
/-- the items as they are -/
theorem W_id {g : Gd} {i : Nat} {xs : List PV} {Q : List PV → PH → Prop} (hi : i < ρ.length) (ok : okG g h = true) (q : Q xs h) : W (lcL g (lcStep cl (.v i) (.nm i) [] ρ) xs h) Q X := by
  refine W_lcL (fun ys r h1 => ys ++ r = xs ∧ h1 = h) ?_ ?_ xs h ⟨rfl, rfl⟩
  · rintro ys x r h1 ⟨e, rfl⟩
    refine ⟨ok, ?_⟩
    simp [hi, e]
  · rintro ys h1 ⟨e, rfl⟩
    rw [List.append_nil] at e
    exact ⟨ok, e ▸ q⟩
/-- a comprehension whose items are made one by one, the store only grows -/
theorem W_map {g : Gd} {elt : E} {i : Nat} {xs : List PV} (f : PV → PV) {Q : List PV → PH → Prop} (ok : ∀ u, okG g (h ++ u) = true)
    (s : ∀ x ∈ xs, ∀ u, W (ev cl elt (ρ.set i (some x)) (h ++ u)) (fun y h1 => y = f x ∧ ∃ u, h1 = h ++ u) no) (q : ∀ u, Q (xs.map f) (h ++ u)) : W (lcL g (lcStep cl elt (.nm i) [] ρ) xs h) Q X := by
  refine W_lcL (fun ys r h1 => ys ++ r.map f = xs.map f ∧ (∀ x ∈ r, x ∈ xs) ∧ ∃ u, h1 = h ++ u) ?_ ?_ xs h ⟨rfl, fun _ z => z, [], by simp⟩
  · rintro ys x r h1 ⟨e, m, u, rfl⟩
    refine ⟨ok u, ?_⟩
    rw [W_lcStep]
    refine (s x (m x (by simp)) u).use ?_
    rintro _ _ ⟨rfl, u2, rfl⟩
    exact ⟨by simpa using e, fun y hy => m y (by simp [hy]), u2, rfl⟩
  · rintro ys h1 ⟨e, m, u, rfl⟩
    rw [List.map_nil, List.append_nil] at e
    exact ⟨ok u, e ▸ q u⟩
/-- .. and the store stays -/
theorem W_map0 {g : Gd} {elt : E} {i : Nat} {xs : List PV} (f : PV → PV) {Q : List PV → PH → Prop} (ok : okG g h = true)
    (s : ∀ x ∈ xs, W (ev cl elt (ρ.set i (some x)) h) (fun y h1 => y = f x ∧ h1 = h) no) (q : Q (xs.map f) h) : W (lcL g (lcStep cl elt (.nm i) [] ρ) xs h) Q X := by
  refine W_lcL (fun ys r h1 => ys ++ r.map f = xs.map f ∧ (∀ x ∈ r, x ∈ xs) ∧ h1 = h) ?_ ?_ xs h ⟨rfl, fun _ z => z, rfl⟩
  · rintro ys x r h1 ⟨e, m, rfl⟩
    refine ⟨ok, ?_⟩
    rw [W_lcStep]
    refine (s x (m x (by simp))).use ?_
    rintro _ _ ⟨rfl, rfl⟩
    exact ⟨by simpa using e, fun y hy => m y (by simp [hy]), rfl⟩
  · rintro ys h1 ⟨e, m, rfl⟩
    rw [List.map_nil, List.append_nil] at e
    exact ⟨ok, e ▸ q⟩
end
theorem intsOf_map {ns : List Int} : intsOf (ns.map .int) = some ns := by
  induction ns with
  | nil => rfl
  | cons n r ih => simp [intsOf, ih]
theorem lst_of {h : PH} {n : Nat} {xs : List PV} (e : h[n]? = some (.lst xs)) : lstOf (.ref n) h = some xs := by simp [lstOf, e]
theorem seq_of {h : PH} {n : Nat} {xs : List PV} (e : h[n]? = some (.lst xs)) : seqOf (.ref n) h = some xs := by simp [seqOf, e]
@[simp] theorem seq_tup {h : PH} {xs : List PV} : seqOf (.tup xs) h = some xs := rfl
@[simp] theorem cut_1 {α : Type} {x : α} {r : List α} : cutL (x :: r) (some 1) none = r := by
  unfold cutL sIx
  have : min (1 : Int).toNat (x :: r).length = 1 := by simp only [List.length_cons]; omega
  simp
end Mi

set_option linter.all false
set_option maxRecDepth 10000
/-! L3: W of own classes, of dict displays, of get and join. -/
namespace Mi
section
variable {cl : Cl} {ρ : Env} {h : PH} {Q : PV → PH → Prop} {X : EQ}
@[simp] theorem W_new {c : String} {as : List E} : W (ev cl (.new c as) ρ h) Q X = W (evs cl as ρ h) (fun vs h1 => W (cl (.m c "__init__") (.ref h1.length :: vs) (h1 ++ [.ins c []])) (fun r h2 => r = .non ∧ Q (.ref h1.length) h2) X) X := by
  rw [ev]
  simp only [W_bind]
  congr 1
  funext vs h1
  congr 1
  funext r h2
  by_cases e : r = .non
  · simp [e]
  · simp [e]
@[simp] theorem W_mto {m : String} {ks : List String} {o : E} {as : List E} : W (ev cl (.mto m ks o as) ρ h) Q X = W (ev cl o ρ h) (fun x h1 => KO (clsOf x m ks h1) fun c => W (evs cl as ρ h1) (fun vs h2 => W (cl (.m c m) (x :: vs) h2) Q X) X) X := by
  rw [ev, W_bind]
  congr 1
  funext x h1
  cases clsOf x m ks h1 with
  | none => rfl
  | some c => simp only [W_bind, KO_some]
@[simp] theorem W_fld {o : E} {f : String} : W (ev cl (.fld o f) ρ h) Q X = W (ev cl o ρ h) (fun x h1 => W (fldV x f h1) Q X) X := by
  rw [ev, W_bind]
@[simp] theorem W_dsp {es : List E} : W (ev cl (.dsp es) ρ h) Q X = W (evs cl es ρ (h ++ [.dic []])) (fun vs h1 => KO (kvsOf vs) fun kvs => ((kvs.all fun p => keyOk p.1) = true ∧ kvs.length ≤ 15 ∧ h1[h.length]? = some (.dic [])) ∧ Q (.ref h.length) (h1.set h.length (.dic (putAll [] kvs)))) X := by
  rw [ev, W_bind]
  congr 1
  funext vs h1
  cases kvsOf vs with
  | none => rfl
  | some kvs =>
    simp only [KO_some]
    by_cases c : (kvs.all fun p => keyOk p.1) = true ∧ kvs.length ≤ 15 ∧ h1[h.length]? = some (.dic [])
    · obtain ⟨c1, c2, c3⟩ := c
      rw [if_pos (by simp only [c1, c2, c3, decide_true, Bool.and_self])]
      simp [c1, c2, c3]
    · rw [if_neg (fun z => c (by simpa only [Bool.and_eq_true, decide_eq_true_eq, and_assoc] using z))]
      rw [eq_false c]
      simp
@[simp] theorem W_mkx {c : String} {as : List E} : W (ev cl (.mkx c as) ρ h) Q X = W (evs cl as ρ h) (fun vs h1 => vs.length ≤ szl ∧ Q (.ref h1.length) (h1 ++ [.exn c []])) X := by
  rw [ev, W_bind]
  congr 1
  funext x h1
  split
  · next h => simp [W, h]
  · next h => simp [W, h]
@[simp] theorem W_mkxi {c f : String} {e : E} : W (ev cl (.mkxi c f e) ρ h) Q X = W (ev cl e ρ h) (fun x h1 => Q (.ref h1.length) (h1 ++ [.exn c [(f, x)]])) X := by
  rw [ev, W_bind]
  rfl
theorem clsOf_ins {n : Nat} {c m : String} {fs : List (String × PV)} {ks : List String} (e : h[n]? = some (.ins c fs)) (l : fs.lookup m = none) (k : c ∈ ks) : clsOf (.ref n) m ks h = some c := by
  simp [clsOf, e, l, k]
theorem W_fldI {n : Nat} {c f : String} {fs : List (String × PV)} (e : h[n]? = some (.ins c fs)) : W (fldV (.ref n) f h) Q X = KO (fs.lookup f) fun v => Q v h := by
  simp only [fldV, e]
  cases fs.lookup f <;> rfl
theorem W_fldX {n : Nat} {c f : String} {fs : List (String × PV)} (e : h[n]? = some (.exn c fs)) : W (fldV (.ref n) f h) Q X = KO (fs.lookup f) fun v => Q v h := by
  simp only [fldV, e]
  cases fs.lookup f <;> rfl
theorem fldI_at {n : Nat} {c f : String} {fs : List (String × PV)} (e : h[n]? = some (.ins c fs)) : W (fldI (.ref n) f h) Q X = KO (fs.lookup f) fun v => Q v h := by
  simp only [fldI, e]
  cases fs.lookup f <;> rfl
theorem W_dget {n : Nat} {kvs : List (PV × PV)} {k d : PV} (e : h[n]? = some (.dic kvs)) (ok : keyOk k = true) : W (mthV "get" (.ref n) [k, d] h) Q X = Q ((lookK k kvs).getD d) h := by
  show W (getV (.ref n) [k, d] h) Q X = _
  simp only [getV, e, ok, if_true]
  rfl
theorem W_join {s : List Char} {v : PV} {ts : List (List Char)} (e : (seqOf v h).bind strsOf = some ts) (l : lenS ts + ts.length * s.length ≤ szl) : W (mthV "join" (.str s) [v] h) Q X = Q (.str (joinS s ts)) h := by
  show W (joinV (.str s) [v] h) Q X = _
  simp only [joinV, e, l, if_true]
  rfl
theorem mok_d {n : Nat} {kvs : List (PV × PV)} (e : h[n]? = some (.dic kvs)) : mok "get" (.ref n) h = true := by
  simp [mok, isD, e]
theorem W_di {n : Nat} {kvs : List (PV × PV)} {k : PV} (e : h[n]? = some (.dic kvs)) (ok : keyOk k = true) : W (idxV (.ref n) k h) Q X = KO (lookK k kvs) fun v => Q v h := by
  cases k with
  | int i =>
    simp only [idxV, e, ok, if_true]
    cases lookK (.int i) kvs <;> rfl
  | str i =>
    simp only [idxV, e, ok, if_true]
    cases lookK (.str i) kvs <;> rfl
  | _ => cases ok
end
section
variable {cl : Cl} {ρ : Env} {h : PH} {Q : Fl → PH → Prop} {X : EQ}
@[simp] theorem W_setf {o e : E} {f : String} : W (ex cl (.setf o f e) ρ h) Q X = W (ev cl e ρ h) (fun x h1 => W (ev cl o ρ h1) (fun y h2 => W (setfV y f x h2) (fun _ h3 => Q (.nx ρ) h3) (fun x h1 => Q (.xc x ρ) h1)) (fun x h1 => Q (.xc x ρ) h1)) (fun x h1 => Q (.xc x ρ) h1) := by
  rw [ex]
  simp only [W_lift]
  rfl
theorem W_setfI {n : Nat} {c f : String} {fs : List (String × PV)} {v : PV} {Q : Unit → PH → Prop} (e : h[n]? = some (.ins c fs)) (l : fs.length < 900) : W (setfV (.ref n) f v h) Q X = Q () (h.set n (.ins c (putFs f v fs))) := by
  simp only [setfV, e, l, if_true]
  rfl
@[simp] theorem W_augf {o e : E} {f : String} {neg : Bool} : W (ex cl (.augf o f neg e) ρ h) Q X = W (ev cl o ρ h) (fun x h1 => W (fldI x f h1) (fun y h2 => W (ev cl e ρ h2) (fun z h3 => sameC x h2 h3 = true ∧ W (augV neg y z h3) (fun w h4 => W (setfV x f w h4) (fun _ h5 => Q (.nx ρ) h5) (fun x h1 => Q (.xc x ρ) h1)) (fun x h1 => Q (.xc x ρ) h1)) (fun x h1 => Q (.xc x ρ) h1)) (fun x h1 => Q (.xc x ρ) h1)) (fun x h1 => Q (.xc x ρ) h1) := by
  rw [ex]
  simp only [W_lift]
  congr 1
  funext x h1
  congr 1
  funext y h2
  congr 1
  funext z h3
  cases sameC x h2 h3
  · simp
  · simp only [if_true, true_and, W_lift]
    rfl
theorem sameC_at {n : Nat} {h' : PH} {c : String} {fs gs : List (String × PV)} (e : h[n]? = some (.ins c fs)) (e' : h'[n]? = some (.ins c gs)) : sameC (.ref n) h h' = true := by
  simp [sameC, e, e']
@[simp] theorem W_raiseI {c f : String} {e : E} : W (ex cl (.raiseI c f e) ρ h) Q X = W (ev cl e ρ h) (fun x h1 => Q (.xc ⟨c, [(f, x)]⟩ ρ) h1) (fun x h1 => Q (.xc x ρ) h1) := by
  rw [ex, W_lift]
  rfl
end
theorem its_enums {s : List Char} {h : PH} (l : s.length ≤ szl) : itsOf .enums [.str s] h = some ⟨enumL 0 (s.map fun c => .str [c]), []⟩ := by
  simp only [itsOf, l, if_true]
theorem its_str {s : List Char} {h : PH} (l : s.length ≤ szl) : itsOf .val [.str s] h = some ⟨s.map fun c => .str [c], []⟩ := by
  simp only [itsOf, ofVal, l, if_true]
/-! ### a def that gets a lambda -/
section
variable {cl : Cl} {ρ : Env} {h : PH} {Q : PV → PH → Prop} {X : EQ}
@[simp] theorem W_lam {f : String} {b : E} : W (ev cl (.lam f b) ρ h) Q X = W (cl (.l f fun h1 => ev cl b ρ h1) [.ref h.length] (h ++ [.lam])) Q X := by rw [ev]
@[simp] theorem W_wk {e : E} : W (ev cl (.wk e) ρ h) Q X = W (ev cl e ρ h) (fun x h1 => W (cl .w [x] h1) Q X) X := by rw [ev, W_bind]
def KCl (o : Option String) (Q : String → Prop) (R : Prop) : Prop := match o with
  | some c => Q c
  | none => R
@[simp] theorem KCl_some {c : String} {Q : String → Prop} {R : Prop} : KCl (some c) Q R = Q c := rfl
@[simp] theorem KCl_none {Q : String → Prop} {R : Prop} : KCl none Q R = R := rfl
@[simp] theorem W_ln {ks : List String} {e : E} : W (ev cl (.ln ks e) ρ h) Q X = W (ev cl e ρ h) (fun x h1 => KCl (clsOf x "__len__" ks h1) (fun c => W (cl (.m c "__len__") [x] h1) (fun r h2 => W (lenR r h2) Q X) X) (W (bltV "len" [x] h1) Q X)) X := by
  rw [ev, W_bind]
  congr 1
  funext x h1
  cases clsOf x "__len__" ks h1 with
  | none => rfl
  | some c => simp only [W_bind, KCl_some]
@[simp] theorem W_inn {neg : Bool} {ks : List String} {a b : E} : W (ev cl (.inn neg ks a b) ρ h) Q X = W (ev cl a ρ h) (fun x h1 => W (ev cl b ρ h1) (fun y h2 => KCl (clsOf y "__contains__" ks h2) (fun c => W (cl (.m c "__contains__") [y, x] h2) (fun r h3 => W (negR neg r h3) Q X) X) (W (cmpV (if neg then .notin else .isin) x y h2) Q X)) X) X := by
  rw [ev]
  simp only [W_bind]
  congr 1
  funext x h1
  congr 1
  funext y h2
  cases clsOf y "__contains__" ks h2 with
  | none => rfl
  | some c => simp only [W_bind, KCl_some]
@[simp] theorem W_oeq {neg : Bool} {ks : List String} {a b : E} : W (ev cl (.oeq neg ks a b) ρ h) Q X = W (ev cl a ρ h) (fun x h1 => W (ev cl b ρ h1) (fun y h2 => KCl (clsOf x "__eq__" ks h2) (fun c => W (cl (.m c "__eq__") [x, y] h2) (fun r h3 => W (negR neg r h3) Q X) X) (W (cmpV (if neg then .ne else .eq) x y h2) Q X)) X) X := by
  rw [ev]
  simp only [W_bind]
  congr 1
  funext x h1
  congr 1
  funext y h2
  cases clsOf x "__eq__" ks h2 with
  | none => rfl
  | some c => simp only [W_bind, KCl_some]
theorem W_told {t : FN → Option Fn} {n i : Nat} {f : String} {d : Fn} {kb : PH → R PV} (hn : 1 ≤ n) (e : t (.f f) = some d) (e2 : t (.l f kb) = none) (np : d.np = 1)
    (k : ∀ m, m + 1 = n → W (exs (clL (callN t m) i kb) d.body ([some (.ref i)] ++ List.replicate d.nl none) h) (KE Q X) no) : W (callN t n (.l f kb) [.ref i] h) Q X := by
  obtain ⟨m, rfl⟩ : ∃ m, n = m + 1 := ⟨n - 1, by omega⟩
  have z : callN t (m + 1) (.l f kb) [.ref i] h = d.run (clL (callN t m) i kb) [.ref i] h := by
    simp only [callN, e2, lamV, e]
  rw [z, W_run (by rw [np]; rfl)]
  exact k m rfl
theorem W_w {i : Nat} {kb : PH → R PV} (g : Gro h (kb h)) : W (clL cl i kb .w [.ref i] h) Q X = W (kb h) Q X := by
  show W (wkV i kb [.ref i] h) Q X = _
  unfold wkV
  simp only [if_true]
  rw [grw_of g]
end
end Mi

set_option linter.all false
set_option maxRecDepth 10000
/-! QA: stores, alphabets, texts. -/
namespace Lib
open Mi
/-! ### the program's defs, compact; what a table holds -/
def c_is_number : Fn := ⟨3, 0, [.ret (.and (.isi (.v 0) ["int", "bool"]) (.and (.nt (.isi (.v 0) ["bool"])) (.chain .le .le (.v 1) (.v 0) (.v 2))))]⟩
def c_is_alphabet : Fn := ⟨1, 1, [.ite (.or (.nt (.isi (.v 0) ["str"])) (.or (.cmp .eq (.v 0) (.k (.str []))) (.nt (.blt "all" [.lc (.cmp .isin (.v 1) (.k (.str ['a', 'b', 'c', 'd']))) (.nm 1) .val [.v 0] [] [1]])))) [.ret (.k (.bl false))] [],
  .ret (.cmp .eq (.blt "list" [.v 0]) (.blt "sorted set" [.v 0]))]⟩
def c_need_letters : Fn := ⟨1, 0, [.ite (.nt (.call "is_alphabet" [.v 0])) [.raise "BadLetters" [.k (.str ['n', 'o', 't', ' ', 'a', 'n', ' ', 'a', 'l', 'p', 'h', 'a', 'b', 'e', 't'])]] []]⟩
def c_is_text : Fn := ⟨2, 1, [.ex (.call "need_letters" [.v 0]),
  .ret (.and (.isi (.v 1) ["str"]) (.blt "all" [.lc (.cmp .isin (.v 2) (.v 0)) (.nm 2) .val [.v 1] [] [2]]))]⟩
def c_need_text : Fn := ⟨2, 0, [.ite (.nt (.call "is_text" [.v 0, .v 1])) [.raise "BadText" [.k (.str ['n', 'o', 't', ' ', 'a', ' ', 't', 'e', 'x', 't', ' ', 'o', 'v', 'e', 'r', ' ', 't', 'h', 'e', ' ', 'a', 'l', 'p', 'h', 'a', 'b', 'e', 't'])]] []]⟩
class HNum (τ : FN → Option Fn) : Prop where
  num : τ (.f "is_number") = some c_is_number
class HAlp (τ : FN → Option Fn) : Prop where
  alp : τ (.f "is_alphabet") = some c_is_alphabet
  nal : τ (.f "need_letters") = some c_need_letters
class HTxt (τ : FN → Option Fn) : Prop extends HAlp τ where
  txt : τ (.f "is_text") = some c_is_text
class HNtx (τ : FN → Option Fn) : Prop extends HTxt τ where
  ntx : τ (.f "need_text") = some c_need_text
variable {τ : FN → Option Fn}
/-! ### stores -/
def PF (h h' : PH) : Prop := ∀ (i : Nat) (o : PO), h[i]? = some o → h'[i]? = some o
theorem PF.refl {h : PH} : PF h h := fun _ _ e => e
theorem PF.trans {h h1 h2 : PH} (a : PF h h1) (b : PF h1 h2) : PF h h2 := fun i o e => b i o (a i o e)
theorem PF.app {h g : PH} : PF h (h ++ g) := fun i o e => get_app e
def PA (h h' : PH) : Prop := ∃ u, h' = h ++ u
theorem PA.pf {h h' : PH} (a : PA h h') : PF h h' := by
  obtain ⟨u, rfl⟩ := a
  exact PF.app
theorem PA.refl {h : PH} : PA h h := ⟨[], by simp⟩
theorem PA.app {h u : PH} : PA h (h ++ u) := ⟨u, rfl⟩
theorem PA.trans {h h1 h2 : PH} (a : PA h h1) (b : PA h1 h2) : PA h h2 := by
  obtain ⟨u, rfl⟩ := a
  obtain ⟨v, rfl⟩ := b
  exact ⟨u ++ v, by simp⟩
theorem num_W [HNum τ] {n : Nat} {i lo hi : Int} {h : PH} (hn : 1 ≤ n) : W (callN τ n (.f "is_number") [.int i, .int lo, .int hi] h) (fun r g => r = .bl (decide (lo ≤ i ∧ i ≤ hi)) ∧ g = h) no := by
  refine W_call hn HNum.num rfl fun k hk => ?_
  simp [c_is_number, tyN]
  by_cases h1 : lo ≤ i
  · simp [h1]
  · simp [h1]
/-! ### alphabets -/
def alphB (s : List Char) : Bool := !s.isEmpty && s.all (fun c => decide (c ∈ ['a', 'b', 'c', 'd'])) && decide (s = sortC s)
theorem den_chars {h : PH} {n : Nat} : ∀ {s : List Char}, mapO (den h n) (s.map fun c => PV.str [c]) = some (s.map fun c => D.str [c])
  | [] => rfl
  | c :: r => by
    rw [List.map_cons, mapO, den_chars]
    simp
theorem eqvs_chars : ∀ {s t : List Char}, D.eqvs (s.map fun c => D.str [c]) (t.map fun c => D.str [c]) = decide (s = t)
  | [], [] => by simp [D.eqvs]
  | [], _ :: _ => by simp [D.eqvs]
  | _ :: _, [] => by simp [D.eqvs]
  | c :: r, d :: t => by
    simp only [List.map_cons, D.eqvs, D.eqv, eqvs_chars (s := r) (t := t)]
    rw [Bool.eq_iff_iff]
    simp
theorem den_ref {h : PH} {a n : Nat} {xs : List PV} (e : h[a]? = some (.lst xs)) : den h (n + 1) (.ref a) = (mapO (den h n) xs).map .lst := by
  simp only [den, e]
theorem eq_chars {h : PH} {a b : Nat} {s t : List Char} (ha : h[a]? = some (.lst (s.map fun c => .str [c]))) (hb : h[b]? = some (.lst (t.map fun c => .str [c]))) : eqV (.ref a) (.ref b) h = some (decide (s = t)) := by
  have d1 : den h 60 (.ref a) = some (.lst (s.map fun c => .str [c])) := by
    rw [den_ref (n := 59) ha, den_chars]
    rfl
  have d2 : den h 60 (.ref b) = some (.lst (t.map fun c => .str [c])) := by
    rw [den_ref (n := 59) hb, den_chars]
    rfl
  unfold eqV
  rw [if_neg (by simp [dicStr]), d1, d2]
  have e1 : emp (.ref a) h = some (false, s.isEmpty) := by
    simp only [emp, ha]
    cases s <;> rfl
  have e2 : emp (.ref b) h = some (false, t.isEmpty) := by
    simp only [emp, hb]
    cases t <;> rfl
  unfold empEq
  rw [e1, e2]
  cases s <;> cases t <;> simp [D.eqv, eqvs_chars]
  rename_i c r d t
  have := eqvs_chars (s := c :: r) (t := d :: t)
  simpa [D.eqv] using this
theorem bls_chars {f : Char → Bool} : ∀ s : List Char, blsOf ((s.map fun c => PV.str [c]).map fun x => PV.bl (match x with
        | .str [c] => f c
        | _ => false)) = some (s.map f)
  | [] => rfl
  | c :: r => by
    rw [List.map_cons, List.map_cons, blsOf, bls_chars r]
    rfl
theorem alph_W [HAlp τ] {n : Nat} {s : List Char} {h : PH} (hn : 1 ≤ n) (hs : s.length < 60) (ab : alphB s = true) :
    W (callN τ n (.f "is_alphabet") [.str s] h) (fun r h' => r = .bl true ∧ PA h h') no := by
  refine W_call hn HAlp.alp rfl fun k hk => ?_
  rw [c_is_alphabet, W_cons]
  simp [-W_cons, tyN]
  unfold alphB at ab
  simp only [Bool.and_eq_true, Bool.not_eq_true', decide_eq_true_eq] at ab
  obtain ⟨⟨a1, a2⟩, a3⟩ := ab
  have h0 : s ≠ [] := by
    rintro rfl
    simp at a1
  have lz : s.length ≤ szl := by simp only [szl]; omega
  simp [-W_cons, h0]
  have ei : itsOf .val [.str s] h = some ⟨s.map fun c => .str [c], []⟩ := by simp [itsOf, ofVal, lz]
  rw [ei]
  refine KLC_of (by simp [szl]; omega) ?_
  refine W_map0 (fun x => .bl (match x with
    | .str [c] => decide (c ∈ ['a', 'b', 'c', 'd'])
    | _ => false)) rfl (fun x hx => ?_) ?_
  · obtain ⟨c, _, rfl⟩ := List.mem_map.mp hx
    simp [inV]
  · rw [lst_of get_new, Option.bind_some]
    show KO (blsOf ((s.map fun c => PV.str [c]).map _)) _
    rw [bls_chars, KO_some, List.all_map]
    have ea : s.all (id ∘ fun c => decide (c ∈ ['a', 'b', 'c', 'd'])) = s.all (fun c => decide (c ∈ ['a', 'b', 'c', 'd'])) := rfl
    rw [ea, a2]
    simp [lis_str lz, -List.length_append, -List.append_assoc]
    rw [W_ssetX (by omega), eq_chars (get_app get_new) get_new]
    simp [a3.symm, -List.length_append, -List.append_assoc]
    exact PA.app.trans (PA.app.trans PA.app)
theorem let_W [HAlp τ] {n : Nat} {s : List Char} {h : PH} (hn : 3 ≤ n) (l : s.length < 60) (e : alphB s = true) :
    W (callN τ n (.f "need_letters") [.str s] h) (fun _ h' => PA h h') no := by
  refine W_call (by omega) HAlp.nal rfl fun k hk => ?_
  simp [c_need_letters]
  refine (alph_W (by omega) l e).use ?_
  rintro _ h2 ⟨rfl, q⟩
  simp
  exact q
/-! ### types -/
theorem ty_pf {v : PV} {h h' : PH} {t : String} (e : tyN v h = some t) (p : PF h h') : tyN v h' = some t := by
  cases v with
  | ref n =>
    simp only [tyN] at e ⊢
    cases q : h[n]? with
    | none => simp [q] at e
    | some o =>
      rw [p n o q]
      rw [q] at e
      exact e
  | _ => exact e
/-- a text that is short, or a value of another type -/
def Odd (v : PV) (ty : String) : Prop := (∃ t, v = .str t ∧ t.length < szl) ∨ ty ≠ "str"
/-! ### texts -/
def txtB (s : List Char) : PV → Bool
  | .str t => t.all fun c => decide (c ∈ s)
  | _ => false
theorem txt_W [HTxt τ] {n : Nat} {s : List Char} {v : PV} {ty : String} {h : PH} (hn : 4 ≤ n) (l : s.length < 60) (e : alphB s = true) (et : tyN v h = some ty) (hs : Odd v ty) :
    W (callN τ n (.f "is_text") [.str s, v] h) (fun r h' => r = .bl (txtB s v) ∧ PA h h') no := by
  refine W_call (by omega) HTxt.txt rfl fun k hk => ?_
  rw [c_is_text, W_cons]
  simp [-W_cons]
  refine (let_W (by omega) l e).use ?_
  rintro _ h2 p
  have et2 := ty_pf et p.pf
  simp [et2]
  by_cases ts : ty = "str"
  · subst ts
    obtain ⟨t, rfl, lt⟩ : ∃ t, v = .str t ∧ t.length < szl := hs.resolve_right (by simp)
    simp
    rw [its_str (Nat.le_of_lt lt)]
    refine KLC_of (by rw [List.length_map]; exact lt) ?_
    refine W_map0 (fun x => .bl (match x with
      | .str [c] => decide (c ∈ s)
      | _ => false)) rfl (fun x hx => ?_) ?_
    · obtain ⟨c, _, rfl⟩ := List.mem_map.mp hx
      simp [inV]
    · rw [lst_of get_new, Option.bind_some]
      show KO (blsOf ((t.map fun c => PV.str [c]).map _)) _
      rw [bls_chars, KO_some, List.all_map]
      exact ⟨rfl, p.trans PA.app⟩
  · simp [ts]
    refine ⟨?_, p⟩
    cases v with
    | str t => exact absurd (Option.some.inj (et.symm.trans rfl)) ts
    | _ => rfl
theorem need_W [HNtx τ] {n : Nat} {s t : List Char} {h : PH} (hn : 5 ≤ n) (l : s.length < 60) (e : alphB s = true) (ok : txtB s (.str t) = true) (hs : t.length < szl) :
    W (callN τ n (.f "need_text") [.str s, .str t] h) (fun _ h' => PA h h') no := by
  refine W_call (by omega) HNtx.ntx rfl fun k hk => ?_
  simp [c_need_text]
  refine (txt_W (by omega) l e rfl (.inl ⟨t, rfl, hs⟩)).use ?_
  rintro _ h2 ⟨rfl, q⟩
  simp [ok]
  exact q
theorem needB_W [HNtx τ] {n : Nat} {s : List Char} {v : PV} {ty : String} {h : PH} (hn : 5 ≤ n) (l : s.length < 60) (e : alphB s = true) (et : tyN v h = some ty) (hs : Odd v ty) (ok : txtB s v = false) :
    W (callN τ n (.f "need_text") [.str s, v] h) (fun _ _ => False) (fun x g => x.cls = "BadText" ∧ PF h g) := by
  refine W_call (by omega) HNtx.ntx rfl fun k hk => ?_
  simp [c_need_text]
  refine (txt_W (by omega) l e et hs).use ?_
  rintro _ h2 ⟨rfl, q⟩
  simp [ok, szl]
  exact q.pf
end Lib

set_option linter.all false
set_option maxRecDepth 10000
/-! QB: runs of a machine by its rows. -/
namespace Lib
open Mi
def c_place_of : Fn := ⟨2, 2, [.ret (.idx (.lc (.v 2) (.tup [.nm 2, .nm 3]) .enums [.v 0] [.cmp .eq (.v 3) (.v 1)] [2, 3]) (.k (.int 0)))]⟩
def c_state_behind : Fn := ⟨4, 1, [.for_ (.nm 4) .val [.v 3] [.asg (.nm 2) (.idx (.idx (.v 1) (.v 2)) (.call "place_of" [.v 0, .v 4]))],
  .ret (.v 2)]⟩
class HRun (τ : FN → Option Fn) : Prop where
  place : τ (.f "place_of") = some c_place_of
  behind : τ (.f "state_behind") = some c_state_behind
variable {τ : FN → Option Fn}
/-- the places of a letter -/
def occs (c : Char) : Nat → List Char → List PV
  | _, [] => []
  | i, d :: r => if d = c then .int (i : Nat) :: occs c (i + 1) r else occs c (i + 1) r
theorem occs_len {c : Char} : ∀ {s : List Char} {i : Nat}, (occs c i s).length ≤ s.length
  | [], _ => by simp [occs]
  | d :: r, i => by
    have := occs_len (c := c) (s := r) (i := i + 1)
    rw [occs]
    split <;> simp <;> omega
theorem occs_idx {c : Char} : ∀ {s : List Char} {i j : Nat}, idxC c s = some j → ∃ r, occs c i s = .int ((i + j : Nat) : Int) :: r
  | [], _, _, e => by simp [idxC] at e
  | d :: r, i, j, e => by
    rw [idxC] at e
    rw [occs]
    by_cases h : d = c
    · rw [if_pos h] at e ⊢
      obtain rfl : 0 = j := Option.some.inj e
      exact ⟨_, rfl⟩
    · rw [if_neg h] at e ⊢
      cases q : idxC c r with
      | none => rw [q] at e; simp at e
      | some k =>
        rw [q] at e
        obtain rfl : k + 1 = j := by simpa using e
        obtain ⟨r', e'⟩ := occs_idx (i := i + 1) q
        exact ⟨r', by rw [e']; congr 3; omega⟩
theorem idx_lt {c : Char} : ∀ {s : List Char} {j : Nat}, idxC c s = some j → j < s.length
  | [], _, e => by simp [idxC] at e
  | d :: r, j, e => by
    rw [idxC] at e
    by_cases h : d = c
    · rw [if_pos h] at e
      obtain rfl : 0 = j := Option.some.inj e
      simp
    · rw [if_neg h] at e
      cases q : idxC c r with
      | none => rw [q] at e; simp at e
      | some k =>
        rw [q] at e
        obtain rfl : k + 1 = j := by simpa using e
        have := idx_lt q
        simp
        omega
theorem idx_mem {c : Char} : ∀ {s : List Char}, c ∈ s → ∃ j, idxC c s = some j
  | [], m => by simp at m
  | d :: r, m => by
    rw [idxC]
    by_cases h : d = c
    · exact ⟨0, by rw [if_pos h]⟩
    · rw [if_neg h]
      obtain ⟨j, e⟩ := idx_mem (s := r) (by rcases List.mem_cons.mp m with z | z; exact absurd z.symm h; exact z)
      exact ⟨j + 1, by rw [e]; rfl⟩
theorem enumL_len {xs : List PV} : ∀ {lo : Nat}, (enumL lo xs).length = xs.length := by
  induction xs with
  | nil => intro lo; rfl
  | cons x r ih => intro lo; simp [enumL, ih]
theorem place_W [HRun τ] {n j : Nat} {s : List Char} {c : Char} {h : PH} (hn : 1 ≤ n) (l : s.length < 60) (e : idxC c s = some j) : W (callN τ n (.f "place_of") [.str s, .str [c]] h) (fun r g => r = .int (j : Nat) ∧ PA h g) no := by
  refine W_call hn HRun.place rfl fun k hk => ?_
  simp [c_place_of]
  have lz : s.length ≤ szl := by simp only [szl]; omega
  rw [its_enums lz]
  refine KLC_of (by simp [szl, enumL_len]; omega) ?_
  refine W_lcL (fun ys r h1 => h1 = h ∧ ∃ i t, r = enumL i (t.map fun c => .str [c]) ∧ ys ++ occs c i t = occs c 0 s) ?_ ?_ _ h ⟨rfl, 0, s, rfl, by simp⟩
  · rintro ys x r h1 ⟨rfl, i, t, er, eo⟩
    refine ⟨rfl, ?_⟩
    cases t with
    | nil => simp [enumL] at er
    | cons d t =>
      simp only [List.map_cons, enumL, List.cons.injEq] at er
      obtain ⟨rfl, rfl⟩ := er
      rw [W_lcStepC]
      simp
      rw [occs] at eo
      by_cases hd : d = c
      · subst hd
        simp at eo ⊢
        exact ⟨i + 1, t, rfl, eo⟩
      · rw [if_neg hd] at eo
        simp [hd]
        exact ⟨i + 1, t, rfl, eo⟩
  · rintro ys h1 ⟨rfl, i, t, er, eo⟩
    refine ⟨rfl, ?_⟩
    cases t with
    | cons d t => simp [enumL] at er
    | nil =>
      simp [occs] at eo
      subst eo
      obtain ⟨r', e'⟩ := occs_idx (i := 0) e
      rw [Nat.zero_add] at e'
      rw [e', W_li get_new]
      simp [PA.app]
/-! ### containers, rows -/
def SeqI (h : PH) (c : PV) (xs : List PV) : Prop := c = .tup xs ∨ ∃ q, c = .ref q ∧ h[q]? = some (.lst xs)
theorem SeqI.mono {h h' : PH} {c : PV} {xs : List PV} (s : SeqI h c xs) (p : PF h h') : SeqI h' c xs := by
  rcases s with rfl | ⟨q, rfl, e⟩
  · exact .inl rfl
  · exact .inr ⟨q, rfl, p _ _ e⟩
theorem atI_nat {α : Type} {xs : List α} {q : Nat} {y : α} (e : xs[q]? = some y) : atI xs (q : Nat) = some y := by
  have l : q < xs.length := by
    rcases Nat.lt_or_ge q xs.length with l | l
    · exact l
    · rw [List.getElem?_eq_none l] at e
      simp at e
  unfold atI
  rw [ixN_of (by omega) (by omega)]
  simpa using e
theorem SeqI.idx {h : PH} {c y : PV} {xs : List PV} {q : Nat} (s : SeqI h c xs) (e : xs[q]? = some y) : W (idxV c (.int (q : Nat)) h) (fun r g => r = y ∧ g = h) no := by
  rcases s with rfl | ⟨a, rfl, ea⟩
  · rw [W_ti, atI_nat e]
    exact ⟨rfl, rfl⟩
  · rw [W_li ea, atI_nat e]
    exact ⟨rfl, rfl⟩
theorem SeqI.len {h : PH} {c : PV} {xs : List PV} (s : SeqI h c xs) : lenOf c h = some xs.length := by
  rcases s with rfl | ⟨q, rfl, e⟩
  · rfl
  · exact len_lst e
theorem SeqI.ty {h : PH} {c : PV} {xs : List PV} (s : SeqI h c xs) : ∃ t, tyN c h = some t ∧ t ∈ ["list", "tuple"] := by
  rcases s with rfl | ⟨q, rfl, e⟩
  · exact ⟨_, rfl, by simp⟩
  · exact ⟨"list", by simp [tyN, e], by simp⟩
theorem SeqI.its {h : PH} {c : PV} {xs : List PV} (s : SeqI h c xs) : ∃ g, itsOf .val [c] h = some ⟨xs, g⟩ ∧ ∀ h', PF h h' → okG g h' = true := by
  rcases s with rfl | ⟨q, rfl, e⟩
  · exact ⟨[], rfl, fun _ _ => rfl⟩
  · exact ⟨[(q, .lst xs)], by simp [itsOf, ofVal, e], fun h' p => okG_one (p _ _ e)⟩
theorem SeqI.seq {h : PH} {c : PV} {xs : List PV} (s : SeqI h c xs) : seqOf c h = some xs := by
  rcases s with rfl | ⟨q, rfl, e⟩
  · rfl
  · exact seq_of e
theorem SeqI.new {h : PH} {xs : List PV} : SeqI (h ++ [PO.lst xs]) (.ref h.length) xs := .inr ⟨_, rfl, get_new⟩
def intsV (r : List Nat) : List PV := r.map fun x => .int (x : Nat)
/-- a container of rows -/
def Rws (h : PH) (v : PV) (R : List (List Nat)) : Prop := ∃ cs, SeqI h v cs ∧ cs.length = R.length ∧ ∀ (q : Nat) (c : PV) (r : List Nat), cs[q]? = some c → R[q]? = some r → SeqI h c (intsV r)
theorem Rws.mono {h h' : PH} {v : PV} {R : List (List Nat)} (s : Rws h v R) (p : PF h h') : Rws h' v R := by
  obtain ⟨cs, a, b, c⟩ := s
  exact ⟨cs, a.mono p, b, fun q x r e1 e2 => (c q x r e1 e2).mono p⟩
theorem Rws.idx {h : PH} {v : PV} {R : List (List Nat)} {q : Nat} (s : Rws h v R) (l : q < R.length) : W (idxV v (.int (q : Nat)) h) (fun x g => g = h ∧ SeqI h x (intsV R[q])) no := by
  obtain ⟨cs, a, b, c⟩ := s
  have e : cs[q]? = some (cs[q]'(by omega)) := List.getElem?_eq_getElem (by omega)
  refine (a.idx e).use ?_
  rintro _ _ ⟨rfl, rfl⟩
  exact ⟨rfl, c q _ _ e (List.getElem?_eq_getElem l)⟩
def nxt (s : List Char) (R : List (List Nat)) (q : Nat) (c : Char) : Nat := match idxC c s with
  | some j => ((R[q]?).bind (·[j]?)).getD 0
  | none => 0
def run (s : List Char) (R : List (List Nat)) (q : Nat) (t : List Char) : Nat := t.foldl (nxt s R) q
structure MOk (s : List Char) (R : List (List Nat)) : Prop where
  len : s.length < 60
  alph : alphB s = true
  pos : 0 < R.length
  few : R.length ≤ 40
  row : ∀ r ∈ R, r.length = s.length ∧ ∀ x ∈ r, x < R.length
theorem nxt_of {s : List Char} {R : List (List Nat)} {q : Nat} {c : Char} (o : MOk s R) (l : q < R.length) (m : c ∈ s) : ∃ j, idxC c s = some j ∧ (intsV R[q])[j]? = some (.int (nxt s R q c : Nat)) ∧ nxt s R q c < R.length := by
  obtain ⟨j, e⟩ := idx_mem m
  have lj := idx_lt e
  obtain ⟨r1, r2⟩ := o.row R[q] (List.getElem_mem l)
  have e1 : R[q]? = some R[q] := List.getElem?_eq_getElem l
  have e2 : R[q][j]? = some (R[q][j]'(by omega)) := List.getElem?_eq_getElem (by omega)
  have en : nxt s R q c = R[q][j]'(by omega) := by
    unfold nxt
    rw [e]
    simp only [e1, Option.bind_some, e2, Option.getD_some]
  refine ⟨j, e, ?_, ?_⟩
  · unfold intsV
    rw [List.getElem?_map, e2, en]
    rfl
  · rw [en]
    exact r2 _ (List.getElem_mem _)
theorem run_lt {s : List Char} {R : List (List Nat)} (o : MOk s R) : ∀ {t : List Char} {q : Nat}, q < R.length → txtB s (.str t) = true → run s R q t < R.length
  | [], q, l, _ => l
  | c :: t, q, l, m => by
    simp only [txtB, List.all_cons, Bool.and_eq_true, decide_eq_true_eq] at m
    obtain ⟨_, _, _, l2⟩ := nxt_of o l m.1
    exact run_lt o (t := t) l2 (by simpa [txtB] using m.2)
theorem behind_W [HRun τ] {n q : Nat} {s t : List Char} {R : List (List Nat)} {v : PV} {h : PH} (hn : 2 ≤ n) (o : MOk s R) (rw' : Rws h v R) (l : q < R.length) (m : txtB s (.str t) = true) (lt : t.length < szl) :
    W (callN τ n (.f "state_behind") [.str s, v, .int (q : Nat), .str t] h) (fun r g => r = .int (run s R q t : Nat) ∧ PA h g) no := by
  refine W_call (by omega) HRun.behind rfl fun k hk => ?_
  rw [c_state_behind, W_cons]
  simp [-W_cons]
  rw [its_str (Nat.le_of_lt lt)]
  refine KL_of (W_forL (fun r ρ h1 => PA h h1 ∧ ∃ q1 t1 z, r = (t1.map fun c => .str [c]) ∧ q1 < R.length ∧ txtB s (.str t1) = true ∧ run s R q1 t1 = run s R q t ∧ ρ = [some (.str s), some v, some (.int (q1 : Nat)), some (.str t), z]) ?_ ?_ _ _ _ ⟨PA.refl, q, t, none, rfl, l, m, rfl, rfl⟩)
  · rintro x r ρ h1 ⟨p, q1, t1, z, er, l1, m1, e1, rfl⟩
    refine ⟨rfl, ?_⟩
    cases t1 with
    | nil => simp at er
    | cons c t1 =>
      simp only [List.map_cons, List.cons.injEq] at er
      obtain ⟨rfl, rfl⟩ := er
      simp only [txtB, List.all_cons, Bool.and_eq_true, decide_eq_true_eq] at m1
      obtain ⟨j, ej, eg, l2⟩ := nxt_of o l1 m1.1
      simp
      refine ((rw'.mono p.pf).idx l1).use ?_
      rintro x2 _ ⟨rfl, sx⟩
      refine (place_W (by omega) o.len ej).use ?_
      rintro _ h2 ⟨rfl, p2⟩
      refine ((sx.mono p2.pf).idx eg).use ?_
      rintro _ _ ⟨rfl, rfl⟩
      simp
      exact ⟨p.trans p2, nxt s R q1 c, t1, rfl, l2, by simpa [txtB] using m1.2, by simpa [run] using e1⟩
  · rintro ρ h1 ⟨p, q1, t1, z, er, l1, m1, e1, rfl⟩
    refine ⟨rfl, ?_⟩
    cases t1 with
    | cons d t => simp at er
    | nil =>
      simp
      exact ⟨congrArg _ (by simpa [run] using e1), p⟩
end Lib

set_option linter.all false
set_option maxRecDepth 10000
/-! QC: a machine. -/
namespace Lib
open Mi
def c_Machine____len__ : Fn := ⟨1, 0, [.ret (.blt "len" [.fld (.v 0) "own_rows"])]⟩
def c_Machine__end : Fn := ⟨2, 0, [.ex (.call "need_text" [.fld (.v 0) "own_letters", .v 1]),
  .ret (.call "state_behind" [.fld (.v 0) "own_letters", .fld (.v 0) "own_rows", .k (.int 0), .v 1])]⟩
def c_Machine____contains__ : Fn := ⟨2, 0, [.ite (.nt (.call "is_text" [.fld (.v 0) "own_letters", .v 1])) [.ret (.k (.bl false))] [],
  .ret (.cmp .isin (.call "state_behind" [.fld (.v 0) "own_letters", .fld (.v 0) "own_rows", .k (.int 0), .v 1]) (.fld (.v 0) "own_accepting"))]⟩
def c_Machine____call__ : Fn := ⟨3, 0, [.ite (.nt (.call "is_number" [.v 1, .k (.int 0), .bop .sub (.blt "len" [.fld (.v 0) "own_rows"]) (.k (.int 1))])) [.raise "BadNumber" [.k (.str ['n', 'o', 't', ' ', 'a', ' ', 's', 't', 'a', 't', 'e'])]] [],
  .ex (.call "need_text" [.fld (.v 0) "own_letters", .v 2]),
  .ret (.call "state_behind" [.fld (.v 0) "own_letters", .fld (.v 0) "own_rows", .v 1, .v 2])]⟩
class HLen (τ : FN → Option Fn) : Prop where
  len : τ (.m "Machine" "__len__") = some c_Machine____len__
class HEnd (τ : FN → Option Fn) : Prop extends HNtx τ, HRun τ where
  end_ : τ (.m "Machine" "end") = some c_Machine__end
class HIn (τ : FN → Option Fn) : Prop extends HTxt τ, HRun τ where
  in_ : τ (.m "Machine" "__contains__") = some c_Machine____contains__
class HCall (τ : FN → Option Fn) : Prop extends HNtx τ, HRun τ, HNum τ where
  call : τ (.m "Machine" "__call__") = some c_Machine____call__
variable {τ : FN → Option Fn}
/-! ### ascending lists -/
theorem sortI_asc : ∀ {l : List Int}, l.Pairwise (· < ·) → sortI l = l
  | [], _ => rfl
  | x :: r, p => by
    rw [sortI, sortI_asc (List.pairwise_cons.mp p).2]
    cases r with
    | nil => rfl
    | cons y t =>
      have := (List.pairwise_cons.mp p).1 y (by simp)
      rw [insI, if_pos (by omega)]
def rowsV (R : List (List Nat)) : PV := .tup (R.map fun r => .tup (intsV r))
def mfs (s : List Char) (R : List (List Nat)) (A : List Nat) : List (String × PV) := [("own_letters", .str s), ("own_rows", rowsV R), ("own_accepting", .tup (intsV A))]
def Mach (h : PH) (a : Nat) (s : List Char) (R : List (List Nat)) (A : List Nat) : Prop := h[a]? = some (.ins "Machine" (mfs s R A))
theorem Rws.tup {h : PH} {R : List (List Nat)} : Rws h (rowsV R) R := by
  refine ⟨_, .inl rfl, by simp, fun q c r e1 e2 => ?_⟩
  rw [List.getElem?_map, e2] at e1
  exact .inl (Option.some.inj e1).symm
section
variable {n a : Nat} {s t : List Char} {R : List (List Nat)} {A : List Nat} {h : PH}
theorem end_W [HEnd τ] (hn : 7 ≤ n) (o : MOk s R) (m : Mach h a s R A) (ok : txtB s (.str t) = true) (lt : t.length < szl) : W (callN τ n (.m "Machine" "end") [.ref a, .str t] h) (fun r g => r = .int (run s R 0 t : Nat) ∧ PA h g) no := by
  refine W_call (by omega) HEnd.end_ rfl fun k hk => ?_
  have f1 := @W_fldI h
  rw [c_Machine__end, W_cons]
  simp [-W_cons]
  rw [W_fldI m]
  simp [-W_cons, mfs]
  refine (need_W (by omega) o.len o.alph ok lt).use ?_
  rintro _ h1 p1
  have m1 : Mach h1 a s R A := p1.pf _ _ m
  simp
  rw [W_fldI m1]
  simp [mfs]
  rw [W_fldI m1]
  simp [mfs]
  refine (behind_W (q := 0) (by omega) o (Rws.tup) o.pos ok lt).use ?_
  rintro _ h2 ⟨rfl, p2⟩
  exact ⟨rfl, p1.trans p2⟩
theorem endB_W [HEnd τ] {v : PV} {ty : String} (hn : 7 ≤ n) (o : MOk s R) (m : Mach h a s R A) (et : tyN v h = some ty) (hs : Odd v ty) (ok : txtB s v = false) : W (callN τ n (.m "Machine" "end") [.ref a, v] h) (fun _ _ => False) (fun x g => x.cls = "BadText" ∧ PF h g) := by
  refine W_call (by omega) HEnd.end_ rfl fun k hk => ?_
  rw [c_Machine__end, W_cons]
  simp [-W_cons]
  rw [W_fldI m]
  simp [-W_cons, mfs]
  refine W.mono (needB_W (n := k) (by omega) o.len o.alph et hs ok) (fun _ _ z => z.elim) ?_
  rintro x g ⟨e, p⟩
  exact ⟨e, p⟩
theorem len_W [HLen τ] (hn : 1 ≤ n) (m : Mach h a s R A) : W (callN τ n (.m "Machine" "__len__") [.ref a] h) (fun r g => r = .int (R.length : Nat) ∧ g = h) no := by
  refine W_call (by omega) HLen.len rfl fun k hk => ?_
  simp [c_Machine____len__]
  rw [W_fldI m]
  simp [mfs, rowsV, List.lookup]
end
theorem den_nat {h : PH} {n : Nat} {i : Int} : den h n (.int i) = some (.int i) := by cases n <;> simp [den]
theorem den_ints {h : PH} {n : Nat} : ∀ {A : List Nat}, mapO (den h n) (intsV A) = some (A.map fun x => D.int (x : Nat))
  | [] => rfl
  | x :: r => by
    have ih := den_ints (h := h) (n := n) (A := r)
    show mapO (den h n) (.int (x : Nat) :: intsV r) = _
    rw [mapO, den_nat, ih]
    rfl
theorem any_ints {q : Nat} : ∀ {A : List Nat}, anyEq (.int (q : Nat)) (A.map fun x => D.int (x : Nat)) = decide (q ∈ A)
  | [] => by simp [anyEq]
  | x :: r => by
    rw [List.map_cons, anyEq, any_ints]
    rw [Bool.eq_iff_iff]
    simp only [D.eqv, Bool.or_eq_true, beq_iff_eq, decide_eq_true_eq, List.mem_cons]
    constructor
    · rintro (e | m)
      · exact .inl (by omega)
      · exact .inr m
    · rintro (e | m)
      · exact .inl (by omega)
      · exact .inr m
theorem in_tup {h : PH} {q : Nat} {A : List Nat} : inV (.int (q : Nat)) (.tup (intsV A)) h = some (decide (q ∈ A)) := by
  simp only [inV, den_nat, den_ints, any_ints]
theorem in_lst {h : PH} {p q : Nat} {A : List Nat} (e : h[p]? = some (.lst (intsV A))) : inV (.int (q : Nat)) (.ref p) h = some (decide (q ∈ A)) := by
  simp only [inV, e, den_nat, den_ints, any_ints]
section
variable {n a : Nat} {s t : List Char} {R : List (List Nat)} {A : List Nat} {h : PH}
theorem in_W [HIn τ] (hn : 7 ≤ n) (o : MOk s R) (m : Mach h a s R A) (ok : txtB s (.str t) = true) (lt : t.length < szl) : W (callN τ n (.m "Machine" "__contains__") [.ref a, .str t] h) (fun r g => r = .bl (decide (run s R 0 t ∈ A)) ∧ PA h g) no := by
  refine W_call (by omega) HIn.in_ rfl fun k hk => ?_
  rw [c_Machine____contains__, W_cons]
  simp [-W_cons]
  rw [W_fldI m]
  simp [-W_cons, mfs]
  refine (txt_W (by omega) o.len o.alph rfl (.inl ⟨t, rfl, lt⟩)).use ?_
  rintro _ h1 ⟨rfl, p1⟩
  have m1 : Mach h1 a s R A := p1.pf _ _ m
  simp [ok]
  rw [W_fldI m1]
  simp [mfs]
  rw [W_fldI m1]
  simp [mfs]
  refine (behind_W (q := 0) (by omega) o (Rws.tup) o.pos ok lt).use ?_
  rintro _ h2 ⟨rfl, p2⟩
  have m2 : Mach h2 a s R A := p2.pf _ _ m1
  rw [W_fldI m2]
  simp [mfs, List.lookup, in_tup]
  exact p1.trans p2
theorem inB_W [HIn τ] {v : PV} {ty : String} (hn : 7 ≤ n) (o : MOk s R) (m : Mach h a s R A) (et : tyN v h = some ty) (hs : Odd v ty) (ok : txtB s v = false) : W (callN τ n (.m "Machine" "__contains__") [.ref a, v] h) (fun r g => r = .bl false ∧ PA h g) no := by
  refine W_call (by omega) HIn.in_ rfl fun k hk => ?_
  rw [c_Machine____contains__, W_cons]
  simp [-W_cons]
  rw [W_fldI m]
  simp [-W_cons, mfs]
  refine (txt_W (by omega) o.len o.alph et hs).use ?_
  rintro _ h1 ⟨rfl, p1⟩
  simp [ok]
  exact p1
theorem call_W [HCall τ] {q : Nat} (hn : 7 ≤ n) (o : MOk s R) (m : Mach h a s R A) (l : q < R.length) (ok : txtB s (.str t) = true) (lt : t.length < szl) : W (callN τ n (.m "Machine" "__call__") [.ref a, .int (q : Nat), .str t] h) (fun r g => r = .int (run s R q t : Nat) ∧ PA h g) no := by
  refine W_call (by omega) HCall.call rfl fun k hk => ?_
  rw [c_Machine____call__, W_cons]
  simp [-W_cons]
  rw [W_fldI m]
  simp [-W_cons, mfs, rowsV, List.lookup]
  refine (num_W (by omega)).use ?_
  rintro _ _ ⟨rfl, rfl⟩
  have l2 : (0 : Int) ≤ (q : Int) ∧ (q : Int) ≤ (R.length : Int) - 1 := by omega
  simp only [l2, and_self, decide_true, tru_bl, KO_some, Bool.not_true, KI_f, W_nil, KF_nx]
  rw [W_cons]
  simp [-W_cons]
  rw [W_fldI m]
  simp [-W_cons, mfs]
  refine (need_W (by omega) o.len o.alph ok lt).use ?_
  rintro _ h1 p1
  have m1 : Mach h1 a s R A := p1.pf _ _ m
  simp
  rw [W_fldI m1]
  simp [mfs]
  rw [W_fldI m1]
  simp [mfs]
  refine (behind_W (by omega) o (Rws.tup) l ok lt).use ?_
  rintro _ h2 ⟨rfl, p2⟩
  exact ⟨rfl, p1.trans p2⟩
/-- a text that is none, to a state that is one -/
theorem callT_W [HCall τ] {v : PV} {ty : String} (hn : 7 ≤ n) (o : MOk s R) (m : Mach h a s R A) (et : tyN v h = some ty) (hs : Odd v ty) (ok : txtB s v = false) : W (callN τ n (.m "Machine" "__call__") [.ref a, .int 0, v] h) (fun _ _ => False) (fun x g => x.cls = "BadText" ∧ PF h g) := by
  refine W_call (by omega) HCall.call rfl fun k hk => ?_
  rw [c_Machine____call__, W_cons]
  simp [-W_cons]
  rw [W_fldI m]
  simp [-W_cons, mfs, rowsV, List.lookup]
  refine W.mono (num_W (n := k) (by omega)) ?_ (fun _ _ z => z.elim)
  rintro _ _ ⟨rfl, rfl⟩
  have hp := o.pos
  have l2 : (0 : Int) ≤ (0 : Int) ∧ (0 : Int) ≤ (R.length : Int) - 1 := by omega
  simp only [l2, and_self, decide_true, tru_bl, KO_some, Bool.not_true, KI_f, W_nil, KF_nx]
  rw [W_cons]
  simp [-W_cons]
  rw [W_fldI m]
  simp [-W_cons, mfs]
  refine W.mono (needB_W (n := k) (by omega) o.len o.alph et hs ok) (fun _ _ z => z.elim) ?_
  rintro x g ⟨e, p⟩
  exact ⟨e, p⟩
/-- no state -/
def NoS (many : Nat) : PV → Prop
  | .int i => ¬ (0 ≤ i ∧ i ≤ (many : Int) - 1)
  | .str _ => True
  | .bl _ => True
  | .non => True
  | .ref _ => True
  | .tup _ => True
theorem numB_W [HNum τ] {v : PV} {many : Nat} {ty : String} (hn : 1 ≤ n) (et : tyN v h = some ty) (ne : (∃ i, v = .int i) ∨ (∃ b, v = .bl b) ∨ ty ∉ ["int", "bool"]) (b : NoS many v) : W (callN τ n (.f "is_number") [v, .int 0, .int ((many : Int) - 1)] h) (fun r g => r = .bl false ∧ g = h) no := by
  rcases ne with ⟨i, rfl⟩ | ⟨t, rfl⟩ | ne
  · refine (num_W hn).mono ?_ fun _ _ z => z
    rintro r g ⟨rfl, rfl⟩
    exact ⟨by rw [decide_eq_false b], rfl⟩
  · refine W_call (by omega) HNum.num rfl fun k hk => ?_
    simp [c_is_number, tyN]
  · refine W_call (by omega) HNum.num rfl fun k hk => ?_
    have n1 : ty ≠ "int" := fun e => ne (by simp [e])
    have n2 : ty ≠ "bool" := fun e => ne (by simp [e])
    simp [c_is_number, et, n1, n2]
theorem callS_W [HCall τ] {v w : PV} {ty : String} (hn : 7 ≤ n) (m : Mach h a s R A) (et : tyN v h = some ty) (ne : (∃ i, v = .int i) ∨ (∃ b, v = .bl b) ∨ ty ∉ ["int", "bool"]) (b : NoS R.length v) : W (callN τ n (.m "Machine" "__call__") [.ref a, v, w] h) (fun _ _ => False) (fun x g => x.cls = "BadNumber" ∧ PF h g) := by
  refine W_call (by omega) HCall.call rfl fun k hk => ?_
  rw [c_Machine____call__, W_cons]
  simp [-W_cons]
  rw [W_fldI m]
  simp [-W_cons, mfs, rowsV, List.lookup]
  refine W.mono (numB_W (n := k) (by omega) et ne b) ?_ (fun _ _ z => z.elim)
  rintro _ _ ⟨rfl, rfl⟩
  simp [szl]
  exact PF.refl
end
end Lib

set_option linter.all false
set_option maxRecDepth 10000
/-! QD: what the laws draw: numbers, elements, alphabets, words, tables of machines. -/
namespace Lib
open Mi
def c__law_begin : Fn := ⟨2, 0, [.ret (.lst [.blt "max" [.k (.int 0), .bop .sub (.v 0) (.bop .pow (.k (.int 10)) (.k (.int 18)))], .bop .add (.v 0) (.bop .mul (.k (.int 977)) (.v 1)), .k (.int 0)])]⟩
def c__law_draw : Fn := ⟨2, 1, [.ite (.cmp .gt (.idx (.v 0) (.k (.int 0))) (.k (.int 0))) [.asg (.nm 2) (.bop .mod (.blt "int" [.idx (.v 0) (.k (.int 0))]) (.v 1)),
  .seti (.v 0) (.k (.int 0)) (.bop .fdiv (.idx (.v 0) (.k (.int 0))) (.v 1)),
  .ret (.v 2)] [],
  .seti (.v 0) (.k (.int 2)) (.bop .add (.idx (.v 0) (.k (.int 2))) (.k (.int 1))),
  .asg (.nm 2) (.bop .add (.bop .mod (.blt "int" [.idx (.v 0) (.k (.int 1))]) (.k (.int 2147483629))) (.bop .mul (.k (.int 104729)) (.idx (.v 0) (.k (.int 2))))),
  .asg (.nm 2) (.bop .mul (.v 2) (.bop .add (.bop .add (.bop .mod (.blt "int" [.idx (.v 0) (.k (.int 1))]) (.k (.int 2147483587))) (.bop .mul (.bop .mul (.k (.int 7919)) (.idx (.v 0) (.k (.int 2)))) (.idx (.v 0) (.k (.int 2))))) (.k (.int 11)))),
  .ret (.bop .mod (.blt "int" [.bop .fdiv (.bop .mod (.blt "int" [.bop .pow (.v 2) (.k (.int 3))]) (.k (.int 2147483647))) (.k (.int 11))]) (.v 1))]⟩
def c__law_pick : Fn := ⟨2, 0, [.ret (.idx (.v 1) (.call "_law_draw" [.v 0, .blt "len" [.v 1]]))]⟩
def c__law_alphabet : Fn := ⟨1, 0, [.ret (.call "_law_pick" [.v 0, .lst [.k (.str ['a']), .k (.str ['a', 'b']), .k (.str ['a', 'b', 'c']), .k (.str ['b', 'd']), .k (.str ['a', 'b', 'c', 'd']), .k (.str ['c']), .k (.str ['a', 'd']), .k (.str ['b', 'c', 'd'])]])]⟩
def c__law_word : Fn := ⟨3, 1, [.ret (.mth "join" (.k (.str [])) [.lc (.call "_law_pick" [.v 0, .v 1]) (.nm 3) .rng [.call "_law_draw" [.v 0, .bop .add (.v 2) (.k (.int 1))]] [] [3]])]⟩
def c__law_table : Fn := ⟨3, 5, [.asg (.nm 3) (.bop .add (.k (.int 1)) (.call "_law_draw" [.v 0, .v 2])),
  .asg (.nm 4) (.lc (.lc (.call "_law_draw" [.v 0, .v 3]) (.nm 6) .val [.v 1] [] [6]) (.nm 5) .rng [.v 3] [] [5]),
  .ret (.tup [.v 4, .lc (.v 7) (.nm 7) .rng [.v 3] [.cmp .eq (.call "_law_draw" [.v 0, .k (.int 2)]) (.k (.int 0))] [7]])]⟩
class HBeg (τ : FN → Option Fn) : Prop where
  beg : τ (.f "_law_begin") = some c__law_begin
class HDraw (τ : FN → Option Fn) : Prop where
  draw : τ (.f "_law_draw") = some c__law_draw
class HPick (τ : FN → Option Fn) : Prop extends HDraw τ where
  pick : τ (.f "_law_pick") = some c__law_pick
class HAbc (τ : FN → Option Fn) : Prop extends HPick τ where
  abc : τ (.f "_law_alphabet") = some c__law_alphabet
class HWord (τ : FN → Option Fn) : Prop extends HPick τ where
  word : τ (.f "_law_word") = some c__law_word
class HTbl (τ : FN → Option Fn) : Prop extends HDraw τ where
  tbl : τ (.f "_law_table") = some c__law_table
variable {τ : FN → Option Fn}
def St (p m : Nat) (h h' : PH) : Prop := Ok h' p m ∧ Kp p h h'
theorem St.app {p m : Nat} {h h' g : PH} (s : St p m h h') : St p m h (h' ++ g) := ⟨s.1.app, s.2.trans Kp.app⟩
theorem St.trans {p m m' : Nat} {h h1 h2 : PH} (a : St p m h h1) (b : St p m' h1 h2) : St p m' h h2 := ⟨b.1, a.2.trans b.2⟩
theorem St.more {p m m' : Nat} {h h1 : PH} (a : St p m h h1) (l : m ≤ m') : St p m' h h1 := ⟨a.1.more l, a.2⟩
theorem ok_pf {p m : Nat} {h h' : PH} (o : Ok h p m) (f : PF h h') : Ok h' p m := by
  obtain ⟨a, b, c, e, r⟩ := o
  exact ⟨a, b, c, f p _ e, r⟩
theorem pf_st {p m : Nat} {h h' : PH} (o : Ok h p m) (f : PF h h') : St p m h h' := ⟨ok_pf o f, fun i u e _ => f i u e⟩
theorem St.pf {p m : Nat} {h h1 h2 : PH} (a : St p m h h1) (f : PF h1 h2) : St p m h h2 := a.trans (pf_st a.1 f)
theorem St.refl {p m : Nat} {h : PH} (o : Ok h p m) : St p m h h := ⟨o, Kp.refl⟩
theorem St.len {p m : Nat} {h g : PH} (s : St p m h g) : h.length ≤ g.length := by
  rcases Nat.lt_or_ge g.length h.length with l | l
  · exfalso
    have e : h[h.length - 1]? = some (h[h.length - 1]'(by omega)) := List.getElem?_eq_getElem (by omega)
    by_cases hp : h.length - 1 = p
    · have := s.1.lt
      omega
    · have := (List.getElem?_eq_some_iff.mp (s.2 _ _ e hp)).1
      omega
  · exact l
theorem draw_W [HDraw τ] {n p m : Nat} {size : Int} {h : PH} (hn : 1 ≤ n) (o : Ok h p m) (hm : m < 2 ^ 40) (hs : 0 < size) (hs2 : size < 2 ^ 60) :
    W (callN τ n (.f "_law_draw") [.ref p, .int size] h) (fun r h' => ∃ i : Int, r = .int i ∧ 0 ≤ i ∧ i < size ∧ St p (m + 1) h h') no := by
  obtain ⟨k, rfl⟩ : ∃ k, n = k + 1 := ⟨n - 1, by omega⟩
  obtain ⟨r, h', r1, r2, e, o', kp, l⟩ := draw_ok (cl := callN τ k) o (by omega) hs hs2
  exact W.of (by rw [callN_succ (t := τ) HDraw.draw]; exact e) ⟨r, rfl, r1, r2, o', kp⟩
/-- .. as a natural number -/
theorem drawN_W [HDraw τ] {n p m size : Nat} {h : PH} (hn : 1 ≤ n) (o : Ok h p m) (hm : m < 2 ^ 40) (hs : 0 < size) (hs2 : size < 2 ^ 60) :
    W (callN τ n (.f "_law_draw") [.ref p, .int (size : Nat)] h) (fun r h' => ∃ i : Nat, r = .int (i : Nat) ∧ i < size ∧ St p (m + 1) h h') no := by
  refine (draw_W hn o hm (by omega) (by omega)).use ?_
  rintro _ h' ⟨i, rfl, i0, i1, s⟩
  exact ⟨i.toNat, by rw [Int.toNat_of_nonneg i0], by omega, s⟩
theorem pick_W [HPick τ] {n p q m : Nat} {h : PH} {xs : List PV} (hn : 2 ≤ n) (o : Ok h p m) (hm : m < 2 ^ 40) (hq : h[q]? = some (.lst xs)) (ne : q ≠ p) (h0 : 0 < xs.length) (h1 : xs.length < 2 ^ 50) :
    W (callN τ n (.f "_law_pick") [.ref p, .ref q] h) (fun r h' => r ∈ xs ∧ St p (m + 1) h h') no := by
  refine W_call (by omega) HPick.pick rfl fun k hk => ?_
  simp [c__law_pick, len_lst hq]
  refine (draw_W (by omega) o hm (by omega) (by omega)).use ?_
  rintro _ h2 ⟨i, rfl, i0, i1, st⟩
  have hi : i.toNat < xs.length := by omega
  have ei : atI xs i = some xs[i.toNat] := by
    unfold atI
    rw [ixN_of i0 i1]
    simp [hi]
  rw [W_li (st.2 _ _ hq ne), ei]
  exact ⟨List.getElem_mem hi, st⟩
theorem pickS_W [HPick τ] {n p m : Nat} {h : PH} {s : List Char} (hn : 2 ≤ n) (o : Ok h p m) (hm : m < 2 ^ 40) (h0 : 0 < s.length) (h1 : s.length < 1000) :
    W (callN τ n (.f "_law_pick") [.ref p, .str s] h) (fun r h' => (∃ c, c ∈ s ∧ r = .str [c]) ∧ St p (m + 1) h h') no := by
  refine W_call (by omega) HPick.pick rfl fun k hk => ?_
  have ls : s.length ≤ szl := by simp only [szl]; omega
  simp [c__law_pick, len_str ls]
  refine (draw_W (by omega) o hm (by omega) (by omega)).use ?_
  rintro _ h2 ⟨i, rfl, i0, i1, st⟩
  have hi : i.toNat < s.length := by omega
  have ei : atI s i = some s[i.toNat] := by
    unfold atI
    rw [ixN_of i0 i1]
    simp [hi]
  simp only [idxV, if_pos ls, ei]
  exact ⟨⟨_, List.getElem_mem hi, rfl⟩, st⟩
theorem begin_W [HBeg τ] {n t : Nat} {x : Int} {h : PH} (hn : 1 ≤ n) (ht : t < 100) : W (callN τ n (.f "_law_begin") [.int x, .int t] h) (fun r h' => r = .ref h.length ∧ St h.length 0 h h') no := by
  obtain ⟨k, rfl⟩ : ∃ k, n = k + 1 := ⟨n - 1, by omega⟩
  obtain ⟨h', e, o, kp⟩ := begin_ok (cl := callN τ k) (x := x) (h := h) ht
  exact W.of (by rw [callN_succ (t := τ) HBeg.beg]; exact e) ⟨rfl, o, kp⟩
theorem its_rng {h : PH} {n : Int} (h0 : -1000 < n) (h1 : n < 1000) : itsOf .rng [.int n] h = some ⟨rngL 0 n.toNat, []⟩ := by
  have : small62 n = true := decide_eq_true (by omega)
  simp only [itsOf, this, if_true]
theorem its_rngN {h : PH} {n : Nat} (h1 : n < 1000) : itsOf .rng [.int (n : Nat)] h = some ⟨rngL 0 n, []⟩ := by
  rw [its_rng (by omega) (by omega), Int.toNat_natCast]
theorem rngL_len {lo : Int} {n : Nat} : (rngL lo n).length = n := by simp [rngL]
/-- what an alphabet is -/
structure Alp (s : List Char) : Prop where
  al : alphB s = true
  len : s.length ≤ 4
  pos : 0 < s.length
theorem alp8 {s : List Char} (m : PV.str s ∈ [PV.str ['a'], .str ['a', 'b'], .str ['a', 'b', 'c'], .str ['b', 'd'], .str ['a', 'b', 'c', 'd'], .str ['c'], .str ['a', 'd'], .str ['b', 'c', 'd']]) : Alp s := by
  simp only [List.mem_cons, List.not_mem_nil, or_false, PV.str.injEq] at m
  rcases m with rfl | rfl | rfl | rfl | rfl | rfl | rfl | rfl <;> exact ⟨by decide, by decide, by decide⟩
theorem abc_W [HAbc τ] {n p m : Nat} {h : PH} (hn : 3 ≤ n) (o : Ok h p m) (hm : m < 2 ^ 40) :
    W (callN τ n (.f "_law_alphabet") [.ref p] h) (fun r h' => (∃ s, r = .str s ∧ Alp s) ∧ St p (m + 1) h h') no := by
  refine W_call (by omega) HAbc.abc rfl fun k hk => ?_
  simp [c__law_alphabet, szl, -List.mem_cons]
  refine (pick_W (by omega) o.app hm get_new (Nat.ne_of_gt o.lt) (by simp) (by simp)).use ?_
  rintro r h' ⟨mr, s⟩
  refine ⟨?_, ⟨s.1, Kp.app.trans s.2⟩⟩
  have hs : ∃ s, r = .str s := by
    simp only [List.mem_cons, List.not_mem_nil, or_false] at mr
    rcases mr with rfl | rfl | rfl | rfl | rfl | rfl | rfl | rfl <;> exact ⟨_, rfl⟩
  obtain ⟨s, rfl⟩ := hs
  exact ⟨s, rfl, alp8 mr⟩
def wrd (s t : List Char) : Prop := ∀ c ∈ t, c ∈ s
theorem wrd_txt {s t : List Char} (w : wrd s t) : txtB s (.str t) = true := by
  unfold wrd at w
  simpa [txtB] using w
theorem strs_map : ∀ l : List (List Char), strsOf (l.map .str) = some l
  | [] => rfl
  | x :: r => by simp [strsOf, strs_map r]
theorem join_nil : ∀ l : List (List Char), joinS [] l = l.flatten
  | [] => rfl
  | [x] => by simp [joinS]
  | x :: y :: r => by simp [joinS, join_nil (y :: r)]
theorem lenS_ones : ∀ l : List Char, lenS (l.map fun c => [c]) = l.length
  | [] => rfl
  | c :: r => by simp [lenS, lenS_ones r]; omega
theorem flat_ones : ∀ l : List Char, (l.map fun c => [c]).flatten = l
  | [] => rfl
  | c :: r => by simp [flat_ones r]
theorem word_W [HWord τ] {n p m most : Nat} {s : List Char} {h : PH} (hn : 3 ≤ n) (o : Ok h p m) (hm : m < 2 ^ 39) (a : Alp s) (hk : most < 900) :
    W (callN τ n (.f "_law_word") [.ref p, .str s, .int (most : Nat)] h) (fun r h' => (∃ t, r = .str t ∧ wrd s t ∧ t.length ≤ most) ∧ St p (m + 1 + most) h h') no := by
  refine W_call (by omega) HWord.word rfl fun k hk => ?_
  simp [c__law_word]
  refine ⟨rfl, ?_⟩
  refine (drawN_W (size := most + 1) (by omega) o (by omega) (by omega) (by omega)).use ?_
  rintro _ h1 ⟨i, rfl, i1, st⟩
  rw [its_rngN (by omega)]
  refine KLC_of (by rw [rngL_len]; simp only [szl]; omega) ?_
  refine W_lcL (fun ys r g => ∃ l : List Char, ys = (l.map fun c => [c]).map .str ∧ wrd s l ∧ l.length + r.length = i ∧ St p (m + 1 + l.length) h1 g) ?_ ?_ _ _ ⟨[], rfl, fun _ z => (by cases z), by simp [rngL_len], st.1, Kp.refl⟩
  · rintro ys x r g ⟨l, rfl, w, el, s1⟩
    refine ⟨rfl, ?_⟩
    simp only [List.length_cons] at el
    rw [W_lcStep]
    simp [wipeE, -List.map_map]
    refine (pickS_W (by omega) s1.1 (by omega) a.pos (by have := a.len; omega)).use ?_
    rintro _ g2 ⟨⟨c, mc, rfl⟩, s2⟩
    refine ⟨l ++ [c], by simp, fun x hx => ?_, by simp; omega, (s1.trans s2).more (by simp; omega)⟩
    rcases List.mem_append.mp hx with hx | hx
    · exact w x hx
    · simp at hx
      subst hx
      exact mc
  · rintro ys g ⟨l, rfl, w, el, s1⟩
    refine ⟨rfl, ?_⟩
    simp only [List.length_nil, Nat.add_zero] at el
    rw [W_join (ts := l.map fun c => [c]) (by rw [seq_of get_new, Option.bind_some, strs_map]) (by simp [lenS_ones, szl]; omega)]
    rw [join_nil, flat_ones]
    exact ⟨⟨l, rfl, w, by omega⟩, (st.trans s1).app.more (by omega)⟩
/-! ### tables of machines: lists of rows, a list of states -/
structure RwL (p : Nat) (h : PH) (q : Nat) (R : List (List Nat)) : Prop where
  ne : q ≠ p
  ex : ∃ qs : List Nat, h[q]? = some (.lst (qs.map .ref)) ∧ qs.length = R.length ∧ ∀ (i a : Nat) (r : List Nat), qs[i]? = some a → R[i]? = some r → a ≠ p ∧ a ≠ q ∧ h[a]? = some (.lst (intsV r))
theorem RwL.mono {p q : Nat} {h h' : PH} {R : List (List Nat)} (s : RwL p h q R) (k : Kp p h h') : RwL p h' q R := by
  obtain ⟨ne, qs, e, l, f⟩ := s
  exact ⟨ne, qs, k _ _ e ne, l, fun i a r e1 e2 => ⟨(f i a r e1 e2).1, (f i a r e1 e2).2.1, k _ _ (f i a r e1 e2).2.2 (f i a r e1 e2).1⟩⟩
theorem RwL.rws {p q : Nat} {h : PH} {R : List (List Nat)} (s : RwL p h q R) : Rws h (.ref q) R := by
  obtain ⟨ne, qs, e, l, f⟩ := s
  refine ⟨_, .inr ⟨q, rfl, e⟩, by simp [l], fun i c r e1 e2 => ?_⟩
  rw [List.getElem?_map] at e1
  cases qa : qs[i]? with
  | none => rw [qa] at e1; cases e1
  | some a =>
    rw [qa] at e1
    obtain rfl : PV.ref a = c := by simpa using e1
    exact .inr ⟨a, rfl, (f i a r qa e2).2.2⟩
/-- a drawn row -/
theorem rowE_W [HDraw τ] {k p m many : Nat} {s : List Char} {h : PH} {ρ : Mi.Env} (hk : 1 ≤ k) (o : Ok h p m) (hm : m < 2 ^ 39) (ls : s.length < 60) (h0 : 0 < many) (h1 : many < 1000)
    (r0 : ρ[0]? = some (some (.ref p))) (r1 : ρ[1]? = some (some (.str s))) (r3 : ρ[3]? = some (some (.int (many : Nat)))) :
    W (ev (callN τ k) (.lc (.call "_law_draw" [.v 0, .v 3]) (.nm 6) .val [.v 1] [] [6]) ρ h)
      (fun r h' => ∃ (q : Nat) (xs : List Nat), r = .ref q ∧ q ≠ p ∧ h.length ≤ q ∧ h'[q]? = some (.lst (intsV xs)) ∧ xs.length = s.length ∧ (∀ x ∈ xs, x < many) ∧ St p (m + s.length) h h') no := by
  have lz : s.length ≤ szl := by simp only [szl]; omega
  simp only [W_lc, W_evs1, W_evs0, W_v, r1, Option.bind_some, id, KO_some]
  rw [its_str lz]
  refine KLC_of (by rw [List.length_map]; simp only [szl]; omega) ?_
  have lk : ∀ (i : Nat) (x : PV), i ≠ 6 → ((wipeE ρ [6]).set 6 (some x))[i]? = ρ[i]? := fun i x hi => by
    rw [List.getElem?_set_ne (fun z => hi z.symm), wipe_cons, wipe_nil, List.getElem?_set_ne (fun z => hi z.symm)]
  refine W_lcL (fun ys r g => ∃ l : List Nat, ys = intsV l ∧ (∀ x ∈ l, x < many) ∧ l.length + r.length = s.length ∧ St p (m + l.length) h g) ?_ ?_ _ _ ⟨[], rfl, fun _ z => (by cases z), by simp, St.refl o⟩
  · rintro ys x r g ⟨l, rfl, w, el, s1⟩
    refine ⟨rfl, ?_⟩
    simp only [List.length_cons] at el
    rw [W_lcStep]
    simp only [W_cal, W_evs1, W_evs0, W_v, lk 0 x (by decide), lk 3 x (by decide), r0, r3, Option.bind_some, id, KO_some]
    refine (drawN_W hk s1.1 (by omega) h0 (by omega)).use ?_
    rintro _ g2 ⟨i, rfl, i1, s2⟩
    refine ⟨l ++ [i], by simp [intsV], fun x hx => ?_, by simp; omega, (s1.trans s2).more (by simp; omega)⟩
    rcases List.mem_append.mp hx with hx | hx
    · exact w x hx
    · simp at hx
      subst hx
      exact i1
  · rintro ys g ⟨l, rfl, w, el, s1⟩
    refine ⟨rfl, ?_⟩
    simp only [List.length_nil, Nat.add_zero] at el
    exact ⟨_, l, rfl, Nat.ne_of_gt s1.1.lt, s1.len, get_new, el, w, (by rw [el] at s1; exact s1.app)⟩
theorem mem_rng {x : PV} {n : Nat} (m : x ∈ rngL 0 n) : ∃ i : Nat, x = .int (i : Nat) ∧ i < n := by
  simp only [rngL, List.mem_map, List.mem_range] at m
  obtain ⟨i, hi, rfl⟩ := m
  exact ⟨i, by simp, hi⟩
theorem rng_cut {ys r : List PV} {x : PV} {n : Nat} (e : rngL 0 n = ys ++ x :: r) : x = .int (ys.length : Nat) ∧ ys.length < n := by
  have l : ys.length < n := by
    have := congrArg List.length e
    simp [rngL_len] at this
    omega
  have e2 : (rngL 0 n)[ys.length]? = some x := by rw [e]; simp
  rw [rngL, List.getElem?_map, List.getElem?_range l] at e2
  simp at e2
  exact ⟨e2.symm, l⟩
@[irreducible] def rowsE : E := .lc (.lc (.call "_law_draw" [.v 0, .v 3]) (.nm 6) .val [.v 1] [] [6]) (.nm 5) .rng [.v 3] [] [5]
@[irreducible] def marksE : E := .lc (.v 7) (.nm 7) .rng [.v 3] [.cmp .eq (.call "_law_draw" [.v 0, .k (.int 2)]) (.k (.int 0))] [7]
/-- drawn states -/
def MrkP (p m many : Nat) (h : PH) (r : PV) (h' : PH) : Prop := ∃ (qa : Nat) (A : List Nat), r = .ref qa ∧ h'[qa]? = some (.lst (intsV A)) ∧ qa ≠ p ∧ h.length ≤ qa ∧ A.Pairwise (· < ·) ∧ (∀ x ∈ A, x < many) ∧ St p (m + many) h h'
theorem marks_W [HDraw τ] {k p m many : Nat} {h : PH} {ρ : Mi.Env} (hk : 1 ≤ k) (o : Ok h p m) (hm : m < 2 ^ 39) (h1 : many < 1000)
    (r0 : ρ[0]? = some (some (.ref p))) (r3 : ρ[3]? = some (some (.int (many : Nat)))) (lr : 7 < ρ.length) :
    W (ev (callN τ k) marksE ρ h) (MrkP p m many h) no := by
  simp only [marksE, W_lc, W_evs1, W_evs0, W_v, r3, Option.bind_some, id, KO_some]
  rw [its_rngN h1]
  refine KLC_of (by rw [rngL_len]; simp only [szl]; omega) ?_
  have lk : ∀ (i : Nat) (x : PV), i ≠ 7 → ((wipeE ρ [7]).set 7 (some x))[i]? = ρ[i]? := fun i x hi => by
    rw [List.getElem?_set_ne (fun z => hi z.symm), wipe_cons, wipe_nil, List.getElem?_set_ne (fun z => hi z.symm)]
  have l7 : ∀ (x : PV), ((wipeE ρ [7]).set 7 (some x))[7]? = some (some x) := fun x => by
    rw [List.getElem?_set_self (by simp [wipeE, lr])]
  refine W_lcL (fun ys r g4 => ∃ (A : List Nat) (pre : List PV), ys = intsV A ∧ rngL 0 many = pre ++ r ∧ A.Pairwise (· < ·) ∧ (∀ x ∈ A, x < pre.length) ∧ St p (m + pre.length) h g4) ?_ ?_ _ _ ⟨[], [], rfl, rfl, List.Pairwise.nil, by simp, by simpa using St.refl o⟩
  · rintro ys x r g4 ⟨A, pre, rfl, ep, pw, bd, s4⟩
    refine ⟨rfl, ?_⟩
    obtain ⟨rfl, lp⟩ := rng_cut ep
    rw [W_lcStepC]
    simp only [bindT_nm, KO_some, W_cmp, W_cal, W_evs1, W_evs0, W_v, W_k, lk 0 _ (by decide), r0, Option.bind_some, id]
    refine (drawN_W (size := 2) (by omega) s4.1 (by omega) (by decide) (by decide)).use ?_
    rintro v g5 ⟨j, ev, j1, s5⟩
    subst ev
    have s6 := s4.trans s5
    rw [W_eq, eqI, KO_some, tru_bl, KO_some]
    have d2 : ∀ x ∈ A, x < (pre ++ [PV.int (pre.length : Nat)]).length := fun x hx => by
      have := bd x hx
      simp
      omega
    by_cases hj : j = 0
    · rw [decide_eq_true (by omega), KM_t, W_v, l7]
      refine ⟨A ++ [pre.length], pre ++ [.int (pre.length : Nat)], by simp [intsV], by simpa using ep, ?_, ?_, s6.more (by simp; omega)⟩
      · rw [List.pairwise_append]
        refine ⟨pw, List.pairwise_singleton _ _, fun x hx y hy => ?_⟩
        simp at hy
        subst hy
        exact bd x hx
      · intro x hx
        rcases List.mem_append.mp hx with hx | hx
        · exact d2 x hx
        · simp at hx
          simp
          omega
    · rw [decide_eq_false (by omega), KM_f]
      exact ⟨A, pre ++ [.int (pre.length : Nat)], by simp, by simpa using ep, pw, d2, s6.more (by simp; omega)⟩
  · rintro ys g4 ⟨A, pre, rfl, ep, pw, bd, s4⟩
    refine ⟨rfl, ?_⟩
    have lp : pre.length = many := by
      have := congrArg List.length ep
      simp [rngL_len] at this
      omega
    exact ⟨g4.length, A, rfl, get_new, Nat.ne_of_gt s4.1.lt, s4.len, pw, fun x hx => by have := bd x hx; omega, s4.app.more (by omega)⟩
theorem mul_40 {a b : Nat} (h : a ≤ 40) (h2 : b ≤ 4) : a * b ≤ 160 := Nat.mul_le_mul h h2
/-- drawn rows -/
def RowP (p m many : Nat) (s : List Char) (h : PH) (r : PV) (h' : PH) : Prop := ∃ (q : Nat) (R : List (List Nat)), r = .ref q ∧ RwL p h' q R ∧ h.length ≤ q ∧ q < h'.length ∧ R.length = many ∧ (∀ x ∈ R, x.length = s.length ∧ ∀ y ∈ x, y < many) ∧ St p (m + 160) h h'
theorem rows_W [HDraw τ] {k p m many : Nat} {s : List Char} {h : PH} {ρ : Mi.Env} (hk : 1 ≤ k) (o : Ok h p m) (hm : m < 2 ^ 38) (a : Alp s) (h0 : 0 < many) (h1 : many ≤ 40)
    (r0 : ρ[0]? = some (some (.ref p))) (r1 : ρ[1]? = some (some (.str s))) (r3 : ρ[3]? = some (some (.int (many : Nat)))) : W (ev (callN τ k) rowsE ρ h) (RowP p m many s h) no := by
  have la := a.len
  simp only [rowsE, W_lc (ρ := ρ), W_evs1, W_evs0, W_v, r3, Option.bind_some, id, KO_some]
  rw [its_rngN (by omega)]
  refine KLC_of (by rw [rngL_len]; simp only [szl]; omega) ?_
  have lk : ∀ (i : Nat) (x : PV), i ≠ 5 → ((wipeE ρ [5]).set 5 (some x))[i]? = ρ[i]? := fun i x hi => by
    rw [List.getElem?_set_ne (fun z => hi z.symm), wipe_cons, wipe_nil, List.getElem?_set_ne (fun z => hi z.symm)]
  refine W_lcL (fun ys r g => ∃ (qs : List Nat) (R : List (List Nat)), ys = qs.map .ref ∧ qs.length = R.length ∧ R.length + r.length = many ∧ (∀ (j b : Nat) (x : List Nat), qs[j]? = some b → R[j]? = some x → b ≠ p ∧ b < g.length ∧ h.length ≤ b ∧ g[b]? = some (.lst (intsV x))) ∧ (∀ x ∈ R, x.length = s.length ∧ ∀ y ∈ x, y < many) ∧ St p (m + R.length * s.length) h g) ?_ ?_ _ _ ⟨[], [], rfl, rfl, by simp [rngL_len], by simp, by simp, by simpa using St.refl o⟩
  · rintro ys x r g ⟨qs, R, rfl, l1, l2, f, ro, s2⟩
    refine ⟨rfl, ?_⟩
    simp only [List.length_cons] at l2
    rw [W_lcStep]
    have mm : R.length * s.length ≤ 160 := mul_40 (by omega) la
    refine (rowE_W (many := many) (s := s) (p := p) (by omega) s2.1 (by omega) (by omega) (by omega) (by omega) ((lk 0 x (by decide)).trans r0) ((lk 1 x (by decide)).trans r1) ((lk 3 x (by decide)).trans r3)).use ?_
    rintro _ g2 ⟨q, xs, rfl, nq, lq, eq, lx, bx, s3⟩
    have lg : q < g2.length := (List.getElem?_eq_some_iff.mp eq).1
    refine ⟨qs ++ [q], R ++ [xs], by simp, by simp [l1], by simp; omega, ?_, ?_, (s2.trans s3).more (by simp [Nat.add_mul]; omega)⟩
    · intro j b x e1 e2
      by_cases hj : j < qs.length
      · rw [List.getElem?_append_left hj] at e1
        rw [List.getElem?_append_left (by omega)] at e2
        obtain ⟨f1, f2, f3, f4⟩ := f j b x e1 e2
        exact ⟨f1, Nat.lt_of_lt_of_le f2 s3.len, f3, s3.2 _ _ f4 f1⟩
      · have hj2 : j = qs.length := by
          have := (List.getElem?_eq_some_iff.mp e1).1
          simp at this
          omega
        subst hj2
        rw [List.getElem?_append_right (Nat.le_refl _), Nat.sub_self] at e1
        rw [l1, List.getElem?_append_right (Nat.le_refl _), Nat.sub_self] at e2
        simp at e1 e2
        subst e1 e2
        exact ⟨nq, lg, Nat.le_trans s2.len lq, eq⟩
    · intro x hx
      rcases List.mem_append.mp hx with hx | hx
      · exact ro x hx
      · simp at hx
        subst hx
        exact ⟨lx, bx⟩
  · rintro ys g ⟨qs, R, rfl, l1, l2, f, ro, s2⟩
    refine ⟨rfl, ?_⟩
    simp only [List.length_nil, Nat.add_zero] at l2
    have mm : R.length * s.length ≤ 160 := mul_40 (by omega) la
    have rwl : RwL p (g ++ [PO.lst (qs.map PV.ref)]) g.length R := ⟨Nat.ne_of_gt s2.1.lt, qs, get_new, l1, fun j b x e1 e2 => ⟨(f j b x e1 e2).1, Nat.ne_of_lt (f j b x e1 e2).2.1, get_app (f j b x e1 e2).2.2.2⟩⟩
    exact ⟨g.length, R, rfl, rwl, s2.len, by simp, l2, ro, s2.app.more (by omega)⟩
theorem W_ret2 {cl : Cl} {ρ : Mi.Env} {h : PH} {i : Nat} {e : E} {x : PV} {Q : PV → PH → Prop} (hx : ρ[i]? = some (some x)) (w : W (ev cl e ρ h) (fun y h1 => Q (.tup [x, y]) h1) no) : W (exs cl [.ret (.tup [.v i, e])] ρ h) (KE Q no) no := by
  rw [W_cons, W_ret, W_tup]
  simp only [W_evs1, W_evs0, W_v, hx, Option.bind_some, id, KO_some]
  refine w.mono (fun y h1 q => ?_) fun _ _ z => z.elim
  exact ⟨by simp [szl], q⟩
theorem table_body : c__law_table = ⟨3, 5, [.asg (.nm 3) (.bop .add (.k (.int 1)) (.call "_law_draw" [.v 0, .v 2])), .asg (.nm 4) rowsE, .ret (.tup [.v 4, marksE])]⟩ := by
  unfold rowsE marksE
  rfl
/-- a drawn table: rows, states -/
def TblP (p m most : Nat) (s : List Char) (h : PH) (r : PV) (h' : PH) : Prop := ∃ (q qa : Nat) (R : List (List Nat)) (A : List Nat), r = .tup [.ref q, .ref qa] ∧ RwL p h' q R ∧ h'[qa]? = some (.lst (intsV A)) ∧ qa ≠ p ∧ MOk s R ∧ R.length ≤ most ∧ A.Pairwise (· < ·) ∧ (∀ x ∈ A, x < R.length) ∧ h.length ≤ q ∧ q < qa ∧ St p (m + 400) h h'
theorem table_W [HTbl τ] {n p m most : Nat} {s : List Char} {h : PH} (hn : 2 ≤ n) (o : Ok h p m) (hm : m < 2 ^ 37) (a : Alp s) (h0 : 0 < most) (h1 : most < 40) :
    W (callN τ n (.f "_law_table") [.ref p, .str s, .int (most : Nat)] h) (TblP p m most s h) no := by
  have la := a.len
  refine W_call (by omega) HTbl.tbl (by rw [table_body]; rfl) fun k hk => ?_
  rw [table_body, W_cons]
  simp only [W_nm, W_bop, W_k, W_cal, W_evs1, W_evs0, W_v, List.map_cons, List.map_nil, List.cons_append, List.nil_append, List.replicate, List.getElem?_cons_succ, List.getElem?_cons_zero, Option.bind_some, id, KO_some]
  refine W.mono (drawN_W (size := most) (by omega) o (by omega) h0 (by omega)) ?_ (fun _ _ z => z.elim)
  rintro _ g1 ⟨i, rfl, i1, s1⟩
  have e1 : (1 : Int) + (i : Nat) = ((i + 1 : Nat) : Int) := by omega
  rw [W_add, e1, KF_nx, W_cons, W_nm]
  refine W.mono (rows_W (many := i + 1) (s := s) (p := p) (m := m + 1) (by omega) s1.1 (by omega) a (by omega) (by omega) rfl rfl rfl) ?_ (fun _ _ z => z.elim)
  rintro _ g2 ⟨q, R, rfl, rwl, lq, lq2, lR, ro, s2⟩
  have s12 := s1.trans s2
  rw [KF_nx]
  refine W_ret2 (x := .ref q) rfl ?_
  refine W.mono (marks_W (many := i + 1) (p := p) (m := m + 1 + 160) (by omega) s12.1 (by omega) (by omega) rfl rfl (by simp)) ?_ (fun _ _ z => z.elim)
  rintro _ g3 ⟨qa, A, rfl, ea, na, lqa, pw, bd, s3⟩
  exact ⟨q, qa, R, A, rfl, rwl.mono s3.2, ea, na, ⟨by omega, a.al, by omega, by omega, fun x hx => by rw [lR]; exact ro x hx⟩, by omega, pw, fun x hx => by have := bd x hx; omega, Nat.le_trans s1.len lq, by omega, (s12.trans s3).more (by omega)⟩
end Lib

set_option linter.all false
set_option maxRecDepth 10000
/-! QE: a machine is made. -/
namespace Lib
open Mi
def c_is_row : Fn := ⟨3, 1, [.ite (.or (.nt (.isi (.v 1) ["list", "tuple"])) (.cmp .ne (.blt "len" [.v 1]) (.blt "len" [.v 0]))) [.ret (.k (.bl false))] [],
  .ret (.blt "all" [.lc (.call "is_number" [.v 3, .k (.int 0), .bop .sub (.v 2) (.k (.int 1))]) (.nm 3) .val [.v 1] [] [3]])]⟩
def c_are_states : Fn := ⟨2, 1, [.ite (.or (.nt (.isi (.v 0) ["list", "tuple"])) (.nt (.blt "all" [.lc (.call "is_number" [.v 2, .k (.int 0), .bop .sub (.v 1) (.k (.int 1))]) (.nm 2) .val [.v 0] [] [2]]))) [.ret (.k (.bl false))] [],
  .ret (.cmp .eq (.blt "len set" [.v 0]) (.blt "len" [.v 0]))]⟩
def c_Machine____init__ : Fn := ⟨4, 2, [.ex (.call "need_letters" [.v 1]),
  .ite (.or (.nt (.isi (.v 2) ["list", "tuple"])) (.nt (.chain .le .le (.k (.int 1)) (.blt "len" [.v 2]) (.k (.int 40))))) [.raiseI "BadMachine" "index" (.k (.int 0))] [],
  .for_ (.tup [.nm 4, .nm 5]) .enum [.v 2] [.ite (.nt (.call "is_row" [.v 1, .v 5, .blt "len" [.v 2]])) [.raiseI "BadMachine" "index" (.v 4)] []],
  .ite (.nt (.call "are_states" [.v 3, .blt "len" [.v 2]])) [.raiseI "BadMachine" "index" (.blt "len" [.v 2])] [],
  .setf (.v 0) "own_letters" (.v 1),
  .setf (.v 0) "own_rows" (.blt "tuple" [.lc (.blt "tuple" [.v 5]) (.nm 5) .val [.v 2] [] [5]]),
  .setf (.v 0) "own_accepting" (.blt "tuple" [.blt "sorted" [.v 3]])]⟩
class HRow (τ : FN → Option Fn) : Prop extends HNum τ where
  row : τ (.f "is_row") = some c_is_row
class HSts (τ : FN → Option Fn) : Prop extends HNum τ where
  sts : τ (.f "are_states") = some c_are_states
class HMake (τ : FN → Option Fn) : Prop extends HAlp τ, HRow τ, HSts τ where
  make : τ (.m "Machine" "__init__") = some c_Machine____init__
variable {τ : FN → Option Fn}
theorem ints_len {r : List Nat} : (intsV r).length = r.length := by simp [intsV]
theorem bls_true {α : Type} : ∀ l : List α, blsOf (l.map fun _ => PV.bl true) = some (l.map fun _ => true)
  | [] => rfl
  | x :: r => by simp [blsOf, bls_true r]
theorem all_true {α : Type} : ∀ l : List α, (l.map fun _ => true).all id = true
  | [] => rfl
  | x :: r => by simp
/-- all are states: what the comprehension gives -/
theorem nums_W [HNum τ] {k i j : Nat} {many : Nat} {c : PV} {r : List Nat} {h : PH} {ρ : Mi.Env} {e : E} (hk : 1 ≤ k) (sc : SeqI h c (intsV r)) (lr : r.length < 1000) (b : ∀ x ∈ r, x < many)
    (hc : ρ[j]? = some (some c)) (hi : i < ρ.length) (he : ∀ (x : Option PV) (h : PH) (Q : PV → PH → Prop) (X : EQ), W (ev (callN τ k) e ((wipeE ρ [i]).set i x) h) Q X = Q (.int ((many : Int) - 1)) h) :
    W (ev (callN τ k) (.blt "all" [.lc (.call "is_number" [.v i, .k (.int 0), e]) (.nm i) .val [.v j] [] [i]]) ρ h) (fun r g => r = .bl true ∧ PA h g) no := by
  obtain ⟨g, eg, og⟩ := sc.its
  simp only [W_blt, W_evs1, W_evs0, W_lc, W_v, hc, Option.bind_some, id, KO_some, eg]
  refine KLC_of (by rw [ints_len]; simp only [szl]; omega) ?_
  refine W_map0 (fun _ => .bl true) (og _ PF.refl) (fun x hx => ?_) ?_
  · obtain ⟨y, hy, rfl⟩ := List.mem_map.mp hx
    have e1 : ((wipeE ρ [i]).set i (some (PV.int (y : Nat))))[i]? = some (some (.int (y : Nat))) := by
      rw [List.getElem?_set_self (by simp [wipeE, hi])]
    simp only [W_cal, W_evs1, W_evs0, W_v, W_k, e1, Option.bind_some, id, KO_some, he]
    refine (num_W hk).use ?_
    rintro _ _ ⟨rfl, rfl⟩
    have := b y hy
    refine ⟨?_, rfl⟩
    congr 1
    rw [decide_eq_true_iff]
    omega
  · rw [W_all, lst_of get_new, Option.bind_some, bls_true, KO_some, all_true]
    exact ⟨rfl, PA.app⟩
theorem row_W [HRow τ] {n many : Nat} {s : List Char} {c : PV} {r : List Nat} {h : PH} (hn : 2 ≤ n) (ls : s.length < 60) (sc : SeqI h c (intsV r)) (lr : r.length = s.length) (b : ∀ x ∈ r, x < many) :
    W (callN τ n (.f "is_row") [.str s, c, .int (many : Nat)] h) (fun r g => r = .bl true ∧ PA h g) no := by
  refine W_call (by omega) HRow.row rfl fun k hk => ?_
  obtain ⟨t, et, mt⟩ := sc.ty
  have lz : s.length ≤ szl := by simp only [szl]; omega
  rw [c_is_row, W_cons]
  simp only [W_ite, W_or, W_nt, W_isi, W_v, List.map_cons, List.map_nil, List.cons_append, List.nil_append, List.getElem?_cons_zero, List.getElem?_cons_succ, Option.bind_some, id, KO_some, et, mt, decide_true, tru_bl, Bool.not_true, KA_t, Bool.not_false, W_cmp, W_blt, W_evs1, W_evs0, W_len, sc.len, len_str lz, ints_len, W_ne, eqI, lr, KI_f, W_nil, KF_nx]
  rw [W_cons, W_ret]
  refine (nums_W (by omega) sc (by omega) b rfl (by simp) fun x h Q X => by simp [wipeE]).use ?_
  rintro _ g ⟨rfl, p⟩
  exact ⟨rfl, p⟩
theorem intsOf_ints {r : List Nat} : intsOf (intsV r) = some (r.map fun x => ((x : Nat) : Int)) := by
  induction r with
  | nil => rfl
  | cons x r ih =>
    show intsOf (.int (x : Nat) :: intsV r) = _
    rw [intsOf, ih]
    rfl
theorem insU_len {x : Int} : ∀ {l : List Int}, x ∉ l → (insU x l).length = l.length + 1
  | [], _ => rfl
  | y :: r, m => by
    have m1 : x ≠ y := fun e => m (by simp [e])
    have m2 : x ∉ r := fun e => m (by simp [e])
    rw [insU]
    split
    · rfl
    · simp [insU_len m2]
theorem insU_mem {x z : Int} : ∀ {l : List Int}, z ∈ insU x l ↔ z = x ∨ z ∈ l
  | [] => by simp [insU]
  | y :: r => by
    rw [insU]
    split
    · simp
    · split
      · next e => subst e; simp
      · simp only [List.mem_cons, insU_mem (l := r)]
        constructor <;> (rintro (h | h | h) <;> simp [h])
theorem sortU_mem {z : Int} : ∀ {l : List Int}, z ∈ sortU l ↔ z ∈ l
  | [] => by simp [sortU]
  | y :: r => by rw [sortU, insU_mem, sortU_mem]; simp
theorem sortU_len : ∀ {l : List Int}, l.Nodup → (sortU l).length = l.length
  | [], _ => rfl
  | y :: r, n => by
    rw [sortU, insU_len (fun m => (List.nodup_cons.mp n).1 (sortU_mem.mp m)), sortU_len (List.nodup_cons.mp n).2]
    rfl
theorem nodup_cast {A : List Nat} (n : A.Nodup) : (A.map fun x => ((x : Nat) : Int)).Nodup := by
  rw [List.Nodup, List.pairwise_map]
  exact n.imp fun h e => h (by omega)
theorem sts_W [HSts τ] {n many : Nat} {c : PV} {A : List Nat} {h : PH} (hn : 2 ≤ n) (sc : SeqI h c (intsV A)) (nd : A.Nodup) (la : A.length < 60) (b : ∀ x ∈ A, x < many) :
    W (callN τ n (.f "are_states") [c, .int (many : Nat)] h) (fun r g => r = .bl true ∧ PA h g) no := by
  refine W_call (by omega) HSts.sts rfl fun k hk => ?_
  obtain ⟨t, et, mt⟩ := sc.ty
  rw [c_are_states, W_cons]
  simp only [W_ite, W_or, W_nt, W_isi, W_v, List.map_cons, List.map_nil, List.cons_append, List.nil_append, List.getElem?_cons_zero, List.getElem?_cons_succ, Option.bind_some, id, KO_some, et, mt, decide_true, tru_bl, Bool.not_true, KA_t, Bool.not_false]
  refine (nums_W (by omega) sc (by omega) b rfl (by simp) fun x h Q X => by simp [wipeE]).use ?_
  rintro _ g ⟨rfl, p⟩
  have s1 := sc.mono p.pf
  simp only [tru_bl, KO_some, Bool.not_true, KI_f, W_nil, KF_nx]
  rw [W_cons, W_ret]
  simp only [W_cmp, W_blt, W_evs1, W_evs0, W_v, List.getElem?_cons_zero, Option.bind_some, id, KO_some]
  have e : bltV "len set" [c] g = .ok (.int (A.length : Nat)) g := by
    simp only [bltV, s1.seq, Option.bind_some, intsOf_ints]
    rw [sortU_len (nodup_cast nd)]
    simp
    try omega
  rw [e, W_ok, W_len, s1.len, KO_some, W_eq, ints_len, eqI]
  simp
  exact p
/-- a machine is made -/
def mkV (s : List Char) (R : List (List Nat)) (A : List Nat) : List (String × PV) := [("own_letters", .str s), ("own_rows", rowsV R), ("own_accepting", .tup ((sortI (A.map fun x => ((x : Nat) : Int))).map .int))]
theorem mkV_asc {s : List Char} {R : List (List Nat)} {A : List Nat} (p : A.Pairwise (· < ·)) : mkV s R A = mfs s R A := by
  unfold mkV mfs
  rw [sortI_asc]
  · simp [intsV]
  · rw [List.pairwise_map]
    exact p.imp fun h => by omega
/-- the rows are walked -/
theorem rows_loop [HRow τ] {k q : Nat} {s : List Char} {R : List (List Nat)} {cs : List PV} {g : Gd} {v0 w : PV} {o4 o5 : Option PV} {h : PH} (hk : 2 ≤ k) (ls : s.length < 60) (e : h[q]? = some (.lst cs)) (lc : cs.length = R.length)
    (f : ∀ (i : Nat) (c : PV) (r : List Nat), cs[i]? = some c → R[i]? = some r → SeqI h c (intsV r)) (ro : ∀ r ∈ R, r.length = s.length ∧ ∀ x ∈ r, x < R.length) (og : ∀ h', PF h h' → okG g h' = true) :
    W (forL g (forStep (callN τ k) (.tup [.nm 4, .nm 5]) [.ite (.nt (.call "is_row" [.v 1, .v 5, .blt "len" [.v 2]])) [.raiseI "BadMachine" "index" (.v 4)] []]) (enumL 0 cs) [some v0, some (.str s), some (.ref q), some w, o4, o5] h)
      (fun fl h' => PA h h' ∧ ∃ o4 o5, fl = .nx [some v0, some (.str s), some (.ref q), some w, o4, o5]) no := by
  refine W_forL (fun r ρ h1 => PA h h1 ∧ ∃ (i : Nat) (t : List PV) (o4 o5 : Option PV), r = enumL i t ∧ (∀ (j : Nat) (c : PV), t[j]? = some c → cs[i + j]? = some c) ∧ ρ = [some v0, some (.str s), some (.ref q), some w, o4, o5]) ?_ ?_ _ _ _ ⟨PA.refl, 0, cs, o4, o5, rfl, fun j c z => by simpa using z, rfl⟩
  · rintro x r ρ h1 ⟨p, i, t, o4, o5, er, ft, rfl⟩
    refine ⟨og _ p.pf, ?_⟩
    cases t with
    | nil => simp [enumL] at er
    | cons c t =>
      simp only [enumL, List.cons.injEq] at er
      obtain ⟨rfl, rfl⟩ := er
      have ec : cs[i]? = some c := by simpa using ft 0 c rfl
      have li : i < R.length := by
        have := (List.getElem?_eq_some_iff.mp ec).1
        omega
      have er : R[i]? = some R[i] := List.getElem?_eq_getElem li
      obtain ⟨r1, r2⟩ := ro _ (List.getElem_mem li)
      rw [W_step2]
      simp only [bindT_tup, bindTs_cons, bindTs_nil, KO_some, List.set_cons_succ, List.set_cons_zero]
      rw [W_cons]
      simp only [W_ite, W_nt, W_cal, W_evs1, W_evs0, W_v, W_blt, W_len, len_lst (p.pf _ _ e), lc, List.getElem?_cons_succ, List.getElem?_cons_zero, Option.bind_some, id, KO_some]
      refine W.mono (row_W (n := k) hk ls ((f i c _ ec er).mono p.pf) r1 r2) ?_ (fun _ _ z => z.elim)
      rintro _ h2 ⟨rfl, p2⟩
      simp only [tru_bl, KO_some, Bool.not_true, KI_f, W_nil, KR_nx]
      refine ⟨p.trans p2, i + 1, t, _, _, rfl, fun j c' z => ?_, rfl⟩
      have := ft (j + 1) c' (by simpa using z)
      rwa [show i + 1 + j = i + (j + 1) by omega]
  · rintro ρ h1 ⟨p, i, t, o4, o5, er, ft, rfl⟩
    exact ⟨og _ p.pf, p, o4, o5, rfl⟩
theorem PA.len {h h' : PH} (p : PA h h') : h.length ≤ h'.length := by
  obtain ⟨u, rfl⟩ := p
  simp
theorem PA.kp {h h' : PH} {a : Nat} (p : PA h h') : Kp a h h' := fun i o e _ => p.pf i o e
theorem init_W [HMake τ] {n a q : Nat} {s : List Char} {R : List (List Nat)} {A : List Nat} {w : PV} {h : PH} (hn : 6 ≤ n) (o : MOk s R) (rw' : Rws h (.ref q) R) (ra : SeqI h w (intsV A)) (lw : ∃ qa, w = .ref qa) (nd : A.Nodup) (la : A.length < 60) (ba : ∀ x ∈ A, x < R.length)
    (e : h[a]? = some (.ins "Machine" [])) :
    W (callN τ n (.m "Machine" "__init__") [.ref a, .str s, .ref q, w] h) (fun r g => r = .non ∧ Kp a h g ∧ g[a]? = some (.ins "Machine" (mkV s R A))) no := by
  refine W_call (by omega) HMake.make rfl fun k hk => ?_
  obtain ⟨cs, sq, lc, f⟩ := rw'
  have eq : h[q]? = some (.lst cs) := by
    rcases sq with z | ⟨q', z, e'⟩
    · cases z
    · cases z
      exact e'
  rw [c_Machine____init__, W_cons]
  simp only [W_ex, W_cal, W_evs1, W_evs0, W_v, List.map_cons, List.map_nil, List.cons_append, List.nil_append, List.getElem?_cons_succ, List.getElem?_cons_zero, Option.bind_some, id, KO_some]
  refine W.mono (let_W (n := k) (by omega) o.len o.alph) ?_ (fun _ _ z => z.elim)
  rintro _ h1 p1
  have eq1 := p1.pf _ _ eq
  rw [KF_nx, W_cons]
  have hp := o.pos
  have hf := o.few
  have t1 : tyN (.ref q) h1 = some "list" := by simp [tyN, eq1]
  have c1 : decide ((1 : Int) ≤ (R.length : Nat)) = true := decide_eq_true (by omega)
  have c2 : decide (((R.length : Nat) : Int) ≤ 40) = true := decide_eq_true (by omega)
  simp only [W_ite, W_or, W_nt, W_isi, W_v, List.getElem?_cons_zero, List.getElem?_cons_succ, Option.bind_some, id, KO_some, t1, List.mem_cons, List.mem_singleton, true_or, decide_true, tru_bl, Bool.not_true, KA_t, Bool.not_false, W_chain, W_k, W_blt, W_evs1, W_evs0, W_len, len_lst eq1, lc, W_le, c1, c2, KC_t, KI_f, W_nil, KF_nx]
  rw [W_cons]
  simp only [W_for, W_evs1, W_evs0, W_v, List.getElem?_cons_zero, List.getElem?_cons_succ, Option.bind_some, id, KO_some]
  rw [show itsOf .enum [.ref q] h1 = some ⟨enumL 0 cs, [(q, .lst cs)]⟩ by simp only [itsOf, ofLst, eq1, Option.map_some]]
  refine KL_of ?_
  refine W.mono (rows_loop (k := k) (R := R) (by omega) o.len eq1 lc (fun i c r e1 e2 => (f i c r e1 e2).mono p1.pf) o.row fun h' p => okG_one (p _ _ eq1)) ?_ (fun _ _ z => z.elim)
  rintro _ h2 ⟨p2, o4, o5, rfl⟩
  have p12 := p1.trans p2
  have eq2 := p12.pf _ _ eq
  rw [KF_nx, W_cons]
  simp only [W_ite, W_nt, W_cal, W_evs1, W_evs0, W_v, W_blt, W_len, len_lst eq2, lc, List.getElem?_cons_succ, List.getElem?_cons_zero, Option.bind_some, id, KO_some]
  refine W.mono (sts_W (n := k) (by omega) (ra.mono p12.pf) nd la ba) ?_ (fun _ _ z => z.elim)
  rintro _ h3 ⟨rfl, p3⟩
  have p13 := p12.trans p3
  simp only [tru_bl, KO_some, Bool.not_true, KI_f, W_nil, KF_nx]
  have ea := p13.pf _ _ e
  have eq3 := p13.pf _ _ eq
  rw [W_cons]
  simp only [W_setf, W_v, List.getElem?_cons_succ, List.getElem?_cons_zero, Option.bind_some, id, KO_some]
  rw [W_setfI ea (by simp), KF_nx, W_cons]
  have ne : q ≠ a := by
    rintro rfl
    rw [eq3] at ea
    cases ea
  have e4 := get_set (o := PO.ins "Machine" (putFs "own_letters" (.str s) [])) ea
  have k4 : Kp a h (h3.set a (.ins "Machine" (putFs "own_letters" (.str s) []))) := (PA.kp p13).trans Kp.set
  generalize h3.set a (.ins "Machine" (putFs "own_letters" (.str s) [])) = h4 at *
  have eq4 := k4 _ _ eq ne
  simp only [W_setf, W_blt, W_evs1, W_evs0, W_lc, W_v, List.getElem?_cons_succ, List.getElem?_cons_zero, Option.bind_some, id, KO_some]
  rw [show itsOf .val [.ref q] h4 = some ⟨cs, [(q, .lst cs)]⟩ from its_lst eq4]
  refine KLC_of (by show cs.length < szl; simp only [szl]; omega) ?_
  have fc : ∀ (i : Nat) (c : PV) (r : List Nat), cs[i]? = some c → R[i]? = some r → SeqI h4 c (intsV r) := by
    intro i c r e1 e2
    rcases f i c r e1 e2 with rfl | ⟨z, rfl, ez⟩
    · exact .inl rfl
    · refine .inr ⟨z, rfl, k4 _ _ ez ?_⟩
      rintro rfl
      rw [e] at ez
      cases ez
  refine W_lcL (fun ys r g => g = h4 ∧ ∃ i, ys = ((R.take i).map fun r => .tup (intsV r)) ∧ r = cs.drop i ∧ i ≤ cs.length) ?_ ?_ _ _ ⟨rfl, 0, by simp, by simp, by omega⟩
  · rintro ys x r g ⟨rfl, i, rfl, er, li⟩
    refine ⟨okG_one eq4, ?_⟩
    have li2 : i < cs.length := by
      rcases Nat.lt_or_ge i cs.length with l | l
      · exact l
      · rw [List.drop_eq_nil_of_le l] at er
        cases er
    rw [List.drop_eq_getElem_cons li2, List.cons.injEq] at er
    obtain ⟨rfl, rfl⟩ := er
    have ec : cs[i]? = some cs[i] := List.getElem?_eq_getElem li2
    have eR : R[i]? = some (R[i]'(by omega)) := List.getElem?_eq_getElem (by omega)
    have sc := fc i _ _ ec eR
    rw [W_lcStep]
    simp only [W_blt, W_evs1, W_evs0, W_v, wipe_cons, wipe_nil, List.set_cons_succ, List.set_cons_zero, List.getElem?_cons_succ, List.getElem?_cons_zero, Option.bind_some, id, KO_some, W_tuple, sc.seq]
    refine ⟨by trivial, i + 1, ?_, rfl, by omega⟩
    have et : List.take (i + 1) R = List.take i R ++ [R[i]'(by omega)] := by rw [List.take_add_one, eR]; rfl
    rw [et, List.map_append]
    rfl
  · rintro ys g ⟨rfl, i, rfl, er, li⟩
    refine ⟨okG_one eq4, ?_⟩
    have li2 : i = R.length := by
      have := congrArg List.length er
      simp at this
      omega
    subst li2
    rw [List.take_length, W_tuple, seq_of get_new, KO_some]
    have e5 : (g ++ [PO.lst (R.map fun r => PV.tup (intsV r))])[a]? = some (.ins "Machine" (putFs "own_letters" (.str s) [])) := get_app e4
    have k5 : Kp a h (g ++ [PO.lst (R.map fun r => PV.tup (intsV r))]) := k4.trans Kp.app
    generalize g ++ [PO.lst (R.map fun r => PV.tup (intsV r))] = h5 at *
    rw [W_setfI e5 (by simp [putFs]), KF_nx, W_cons]
    have e6 := get_set (o := PO.ins "Machine" (putFs "own_rows" (rowsV R) (putFs "own_letters" (.str s) []))) e5
    have k6 : Kp a h (h5.set a (PO.ins "Machine" (putFs "own_rows" (rowsV R) (putFs "own_letters" (.str s) [])))) := k5.trans Kp.set
    change W (ex _ _ _ (h5.set a (PO.ins "Machine" (putFs "own_rows" (rowsV R) (putFs "own_letters" (.str s) []))))) _ _
    generalize h5.set a (PO.ins "Machine" (putFs "own_rows" (rowsV R) (putFs "own_letters" (.str s) []))) = h6 at *
    obtain ⟨qa, rfl⟩ := lw
    have ra6 : h6[qa]? = some (.lst (intsV A)) := by
      rcases ra with z | ⟨z, ez, e'⟩
      · cases z
      · cases ez
        refine k6 _ _ e' ?_
        rintro rfl
        rw [e] at e'
        cases e'
    simp only [W_setf, W_blt, W_evs1, W_evs0, W_v, List.getElem?_cons_succ, List.getElem?_cons_zero, Option.bind_some, id, KO_some, W_sorted, lst_of ra6, intsOf_ints]
    rw [W_tuple, seq_of get_new, KO_some, W_setfI (get_app e6) (by simp [putFs]), KF_nx, W_nil, KE_nx]
    refine ⟨rfl, (k6.trans Kp.app).trans Kp.set, ?_⟩
    rw [get_set (get_app e6)]
    rfl
end Lib

set_option linter.all false
set_option maxRecDepth 10000
/-! K4a: the table; what is told of errors; the law's own runs. -/
namespace Mk04
open Mi Lib
instance : HNum tab := ⟨rfl⟩
instance : HNtx tab := { alp := rfl, nal := rfl, txt := rfl, ntx := rfl }
instance : HRun tab := ⟨rfl, rfl⟩
instance : HLen tab := ⟨rfl⟩
instance : HEnd tab := { end_ := rfl }
instance : HIn tab := { in_ := rfl }
instance : HCall tab := { call := rfl }
instance : HBeg tab := ⟨rfl⟩
instance : HPick tab := { draw := rfl, pick := rfl }
instance : HAbc tab := { abc := rfl }
instance : HWord tab := { word := rfl }
instance : HTbl tab := { tbl := rfl }
instance : HRow tab := { row := rfl }
instance : HSts tab := { sts := rfl }
instance : HMake tab := { make := rfl }
def words : List (String × List Char) := [("BadText", ['t', 'e', 'x', 't']), ("BadNumber", ['n', 'u', 'm', 'b', 'e', 'r'])]
theorem told_W {n i : Nat} {kb : PH → R PV} {h : PH} {word : List Char} {c : String} (hn : 1 ≤ n) (g : ∀ h, Gro h (kb h)) (w : W (kb h) (fun _ _ => False) (fun x g => x.cls = c ∧ PF h g)) (hc : (c, word) ∈ words) :
    W (callN tab n (.l "_law_told" kb) [.ref i] h) (fun r g => r = .str word ∧ PF h g) no := by
  refine W_told hn (d := c__law_told) rfl rfl rfl fun m hm => ?_
  rw [c__law_told, W_cons]
  simp [-W_cons]
  rw [W_cons]
  simp [-W_cons]
  rw [W_cons]
  simp [-W_cons]
  rw [W_w (g h)]
  refine W.mono w (fun _ _ z => z.elim) ?_
  rintro ⟨xc, xf⟩ h1 ⟨e, p1⟩
  have e : xc = c := e
  subst e
  simp only [words, List.mem_cons, List.not_mem_nil, or_false, Prod.mk.injEq] at hc
  have ap : PF h1 (h1 ++ [PO.exn xc xf]) := PF.app
  rcases hc with ⟨rfl, rfl⟩ | ⟨rfl, rfl⟩ <;> simp [tyN] <;> exact p1.trans ap
theorem lam_W {k : Nat} {b : E} {ρ : Mi.Env} {h : PH} {word : List Char} {c : String} (hk : 1 ≤ k) (hc : (c, word) ∈ words) (w : W (ev (callN tab k) b ρ (h ++ [.lam])) (fun _ _ => False) (fun x g => x.cls = c ∧ PF (h ++ [.lam]) g)) :
    W (ev (callN tab k) (.lam "_law_told" b) ρ h) (fun r g => r = .str word ∧ PF h g) no := by
  rw [W_lam]
  refine (told_W hk (fun h => ev_gro (callN_gro tab k) b ρ h) w hc).use ?_
  rintro _ g ⟨rfl, p⟩
  exact ⟨rfl, PF.app.trans p⟩
end Mk04

set_option linter.all false
set_option maxRecDepth 10000
/-! P04c: the law's own runs. -/
namespace Mk04
open Mi Lib
theorem sidx_W {s : List Char} {c : Char} {j : Nat} {h : PH} (e : idxC c s = some j) {Q : PV → PH → Prop} {X : EQ} : W (mthV "sindex" (.str s) [.str [c]] h) Q X = Q (.int (j : Nat)) h := by
  have : mthV "sindex" (.str s) [.str [c]] h = .ok (.int (j : Nat)) h := by
    show sidxV (.str s) [.str [c]] h = _
    simp only [sidxV, e]
  rw [this]
  rfl
theorem from_W {n q : Nat} {s t : List Char} {R : List (List Nat)} {v : PV} {h : PH} (hn : 2 ≤ n) (o : MOk s R) (rw' : Rws h v R) (l : q < R.length) (m : txtB s (.str t) = true) (lt : t.length < szl) :
    W (callN tab n (.f "_law_from") [.str s, v, .int (q : Nat), .str t] h) (fun r g => r = .int (Lib.run s R q t : Nat) ∧ g = h) no := by
  refine W_call (by omega) rfl rfl fun k hk => ?_
  rw [c__law_from, W_cons]
  simp [-W_cons]
  rw [its_str (Nat.le_of_lt lt)]
  refine KL_of (W_forL (fun r ρ h1 => h1 = h ∧ ∃ q1 t1 z, r = (t1.map fun c => .str [c]) ∧ q1 < R.length ∧ txtB s (.str t1) = true ∧ Lib.run s R q1 t1 = Lib.run s R q t ∧ ρ = [some (.str s), some v, some (.int (q1 : Nat)), some (.str t), z]) ?_ ?_ _ _ _ ⟨rfl, q, t, none, rfl, l, m, rfl, rfl⟩)
  · rintro x r ρ h1 ⟨rfl, q1, t1, z, er, l1, m1, e1, rfl⟩
    refine ⟨rfl, ?_⟩
    cases t1 with
    | nil => simp at er
    | cons c t1 =>
      simp only [List.map_cons, List.cons.injEq] at er
      obtain ⟨rfl, rfl⟩ := er
      simp only [txtB, List.all_cons, Bool.and_eq_true, decide_eq_true_eq] at m1
      obtain ⟨j, ej, eg, l2⟩ := nxt_of o l1 m1.1
      simp
      refine (rw'.idx l1).use ?_
      rintro x2 _ ⟨rfl, sx⟩
      refine ⟨rfl, ?_⟩
      rw [sidx_W ej]
      refine (sx.idx eg).use ?_
      rintro _ _ ⟨rfl, rfl⟩
      simp
      exact ⟨nxt s R q1 c, t1, rfl, l2, by simpa [txtB] using m1.2, by simpa [Lib.run] using e1⟩
  · rintro ρ h1 ⟨rfl, q1, t1, z, er, l1, m1, e1, rfl⟩
    refine ⟨rfl, ?_⟩
    cases t1 with
    | cons d t => simp at er
    | nil =>
      simp
      exact congrArg _ (by simpa [Lib.run] using e1)
theorem run_W {n : Nat} {s t : List Char} {R : List (List Nat)} {v : PV} {h : PH} (hn : 2 ≤ n) (o : MOk s R) (rw' : Rws h v R) (m : txtB s (.str t) = true) (lt : t.length < szl) :
    W (callN tab n (.f "_law_run") [.str s, v, .str t] h) (fun r g => r = .int (Lib.run s R 0 t : Nat) ∧ g = h) no := by
  refine W_call (by omega) rfl rfl fun k hk => ?_
  rw [c__law_run, W_cons]
  simp [-W_cons]
  rw [W_cons]
  simp [-W_cons]
  rw [its_str (Nat.le_of_lt lt)]
  refine KL_of (W_forL (fun r ρ h1 => h1 = h ∧ ∃ (q1 : Nat) (t1 : List Char) (z : Option PV), r = (t1.map fun c => .str [c]) ∧ q1 < R.length ∧ txtB s (.str t1) = true ∧ Lib.run s R q1 t1 = Lib.run s R 0 t ∧ ρ = [some (.str s), some v, some (.str t), some (.int (q1 : Nat)), z]) ?_ ?_ _ _ _ ⟨rfl, 0, t, none, rfl, o.pos, m, rfl, rfl⟩)
  · rintro x r ρ h1 ⟨rfl, q1, t1, z, er, l1, m1, e1, rfl⟩
    refine ⟨rfl, ?_⟩
    cases t1 with
    | nil => simp at er
    | cons c t1 =>
      simp only [List.map_cons, List.cons.injEq] at er
      obtain ⟨rfl, rfl⟩ := er
      simp only [txtB, List.all_cons, Bool.and_eq_true, decide_eq_true_eq] at m1
      obtain ⟨j, ej, eg, l2⟩ := nxt_of o l1 m1.1
      simp
      refine (rw'.idx l1).use ?_
      rintro x2 _ ⟨rfl, sx⟩
      refine ⟨rfl, ?_⟩
      rw [sidx_W ej]
      refine (sx.idx eg).use ?_
      rintro _ _ ⟨rfl, rfl⟩
      simp
      exact ⟨nxt s R q1 c, t1, rfl, l2, by simpa [txtB] using m1.2, by simpa [Lib.run] using e1⟩
  · rintro ρ h1 ⟨rfl, q1, t1, z, er, l1, m1, e1, rfl⟩
    refine ⟨rfl, ?_⟩
    cases t1 with
    | cons d t => simp at er
    | nil =>
      simp
      exact congrArg _ (by simpa [Lib.run] using e1)
end Mk04

set_option linter.all false
set_option maxRecDepth 10000
/-! K4c: one lap; what is refused. -/
namespace Mk04
open Mi Lib
structure Cx (h : PH) (p a q qa : Nat) (s : List Char) (R : List (List Nat)) (A : List Nat) : Prop where
  alp : Alp s
  mok : MOk s R
  mach : Mach h a s R A
  na : a ≠ p
  rows : RwL p h q R
  acc : h[qa]? = some (.lst (intsV A))
  nq : qa ≠ p
theorem Cx.mono {h h' : PH} {p a q qa : Nat} {s : List Char} {R : List (List Nat)} {A : List Nat} (c : Cx h p a q qa s R A) (k : Kp p h h') : Cx h' p a q qa s R A :=
  ⟨c.alp, c.mok, k _ _ c.mach c.na, c.na, c.rows.mono k, k _ _ c.acc c.nq, c.nq⟩
theorem Cx.pf {h h' : PH} {p a q qa : Nat} {s : List Char} {R : List (List Nat)} {A : List Nat} (c : Cx h p a q qa s R A) (k : PF h h') : Cx h' p a q qa s R A := c.mono fun i o e _ => k i o e
theorem Cx.cls {h : PH} {p a q qa : Nat} {s : List Char} {R : List (List Nat)} {A : List Nat} (c : Cx h p a q qa s R A) {m : String} (hm : (mfs s R A).lookup m = none) : clsOf (.ref a) m ["Machine"] h = some "Machine" := clsOf_ins c.mach hm (by simp)
theorem lk_end {s : List Char} {R : List (List Nat)} {A : List Nat} : (mfs s R A).lookup "end" = none := by simp [mfs, List.lookup]
theorem lk_in {s : List Char} {R : List (List Nat)} {A : List Nat} : (mfs s R A).lookup "__contains__" = none := by simp [mfs, List.lookup]
theorem lk_call {s : List Char} {R : List (List Nat)} {A : List Nat} : (mfs s R A).lookup "__call__" = none := by simp [mfs, List.lookup]
theorem lk_len {s : List Char} {R : List (List Nat)} {A : List Nat} : (mfs s R A).lookup "__len__" = none := by simp [mfs, List.lookup]
section
variable {k p a q qa m : Nat} {s : List Char} {R : List (List Nat)} {A : List Nat} {g h0 : PH} {v0 v1 v2 v6 v7 v10 v11 v12 : Option PV}
abbrev En (v0 v1 v2 : Option PV) (p : Nat) (s : List Char) (a : Nat) (v6 v7 : Option PV) (q qa : Nat) (v10 v11 v12 : Option PV) : Mi.Env :=
  [v0, v1, v2, some (.ref p), some (.str s), some (.ref a), v6, v7, some (.ref q), some (.ref qa), v10, v11, v12]
def lapB : List S := [.asg (.nm 7) (.call "_law_word" [.v 3, .v 4, .k (.int 12)]),
  .asg (.nm 10) (.call "_law_run" [.v 4, .v 8, .v 7]),
  .ite (.or (.cmp .ne (.mto "end" ["Machine"] (.v 5) [.v 7]) (.v 10)) (.cmp .ne (.inn false ["Machine"] (.v 7) (.v 5)) (.cmp .isin (.v 10) (.v 9)))) [.ret (.k (.bl false))] [],
  .asg (.nm 11) (.call "_law_draw" [.v 3, .blt "len" [.v 8]]),
  .asg (.nm 12) (.call "_law_from" [.v 4, .v 8, .v 11, .v 7]),
  .ite (.cmp .ne (.mto "__call__" ["Machine"] (.v 5) [.v 11, .v 7]) (.v 12)) [.ret (.k (.bl false))] []]
theorem lap_W (hk : 20 ≤ k) (c : Cx g p a q qa s R A) (st : St p m h0 g) (hm : m < 2 ^ 30) :
    W (exs (callN tab k) lapB (En v0 v1 v2 p s a v6 v7 q qa v10 v11 v12) g)
      (fun fl g' => ∃ v7 v10 v11 v12, fl = .nx (En v0 v1 v2 p s a v6 v7 q qa v10 v11 v12) ∧ Cx g' p a q qa s R A ∧ St p (m + 14) h0 g') no := by
  rw [lapB, W_cons]
  simp only [W_nm, W_cal, W_evs1, W_evs0, W_v, W_k, List.getElem?_cons_succ, List.getElem?_cons_zero, Option.bind_some, id, KO_some]
  refine W.mono (word_W (n := k) (most := 12) (by omega) st.1 (by omega) c.alp (by decide)) ?_ (fun _ _ z => z.elim)
  rintro _ g1 ⟨⟨t, rfl, wt, lt⟩, s1⟩
  have c1 := c.mono s1.2
  have tx := wrd_txt wt
  have lz : t.length < szl := by simp only [szl]; omega
  simp only [KF_nx, List.set_cons_succ, List.set_cons_zero]
  rw [W_cons]
  simp only [W_nm, W_cal, W_evs1, W_evs0, W_v, List.getElem?_cons_succ, List.getElem?_cons_zero, Option.bind_some, id, KO_some]
  refine W.mono (run_W (n := k) (by omega) c.mok c1.rows.rws tx lz) ?_ (fun _ _ z => z.elim)
  rintro _ _ ⟨rfl, rfl⟩
  simp only [KF_nx, List.set_cons_succ, List.set_cons_zero]
  rw [W_cons]
  simp only [W_ite, W_or, W_cmp, W_mto, W_evs1, W_evs0, W_v, List.getElem?_cons_succ, List.getElem?_cons_zero, Option.bind_some, id, KO_some, c1.cls lk_end]
  refine W.mono (end_W (n := k) (by omega) c.mok c1.mach tx lz) ?_ (fun _ _ z => z.elim)
  rintro _ g2 ⟨rfl, p2⟩
  have c2 := c1.pf p2.pf
  simp only [W_ne, eqI, decide_true, KO_some, Bool.not_true, Bool.not_false, tru_bl, KA_t, W_cmp, W_inn, W_v, List.getElem?_cons_succ, List.getElem?_cons_zero, Option.bind_some, id, c2.cls lk_in, KCl_some]
  refine W.mono (in_W (τ := tab) (n := k) (by omega) c.mok c2.mach tx lz) ?_ (fun _ _ z => z.elim)
  rintro _ g3 ⟨rfl, p3⟩
  have c3 := c2.pf p3.pf
  simp only [negR, W_ok, W_cmp, W_v, List.getElem?_cons_succ, List.getElem?_cons_zero, Option.bind_some, id, KO_some, W_in, in_lst c3.acc, W_ne, eqB, decide_true, Bool.not_true, tru_bl, KI_f, W_nil, KF_nx, Bool.false_eq_true, if_false]
  rw [W_cons]
  have st3 := ((st.trans s1).pf p2.pf).pf p3.pf
  obtain ⟨cs, eq, lc, _⟩ := c3.rows.ex
  have lR : (cs.map PV.ref).length = R.length := by simp [lc]
  simp only [W_nm, W_cal, W_evs1, W_evs0, W_v, W_blt, W_len, len_lst eq, lR, List.getElem?_cons_succ, List.getElem?_cons_zero, Option.bind_some, id, KO_some]
  have hf := c.mok.few
  refine W.mono (drawN_W (n := k) (size := R.length) (by omega) st3.1 (by omega) c.mok.pos (by omega)) ?_ (fun _ _ z => z.elim)
  rintro _ g4 ⟨i, rfl, i1, s4⟩
  have c4 := c3.mono s4.2
  simp only [KF_nx, List.set_cons_succ, List.set_cons_zero]
  rw [W_cons]
  simp only [W_nm, W_cal, W_evs1, W_evs0, W_v, List.getElem?_cons_succ, List.getElem?_cons_zero, Option.bind_some, id, KO_some]
  refine W.mono (from_W (n := k) (by omega) c.mok c4.rows.rws i1 tx lz) ?_ (fun _ _ z => z.elim)
  rintro _ _ ⟨rfl, rfl⟩
  simp only [KF_nx, List.set_cons_succ, List.set_cons_zero]
  rw [W_cons]
  simp only [W_ite, W_cmp, W_mto, W_evs1, W_evs0, W_v, List.getElem?_cons_succ, List.getElem?_cons_zero, Option.bind_some, id, KO_some, c4.cls lk_call]
  refine W.mono (call_W (n := k) (by omega) c.mok c4.mach i1 tx lz) ?_ (fun _ _ z => z.elim)
  rintro _ g5 ⟨rfl, p5⟩
  simp only [W_ne, eqI, decide_true, KO_some, Bool.not_true, tru_bl, KI_f, W_nil, KF_nx]
  exact ⟨_, _, _, _, rfl, c4.pf p5.pf, ((st3.trans s4).pf p5.pf).more (by omega)⟩
end
/-! ### what is refused -/
def Ty (p : Nat) (h : PH) (v : PV) (ty : String) : Prop := ∀ h', Kp p h h' → tyN v h' = some ty
def BadX (p : Nat) (h : PH) (s : List Char) (v : PV) : Prop := txtB s v = false ∧ ((∃ t, v = .str t ∧ t.length < szl) ∨ ∃ ty, ty ≠ "str" ∧ Ty p h v ty)
theorem BadX.mono {p : Nat} {h h' : PH} {s : List Char} {v : PV} (b : BadX p h s v) (k : Kp p h h') : BadX p h' s v :=
  ⟨b.1, b.2.imp id fun ⟨ty, n, t⟩ => ⟨ty, n, fun h2 k2 => t h2 (k.trans k2)⟩⟩
theorem BadX.ty {p : Nat} {h : PH} {s : List Char} {v : PV} (b : BadX p h s v) : ∃ ty, tyN v h = some ty ∧ Odd v ty := by
  rcases b.2 with ⟨t, rfl, l⟩ | ⟨ty, n, t⟩
  · exact ⟨"str", rfl, .inl ⟨t, rfl, l⟩⟩
  · exact ⟨ty, t h Kp.refl, .inr n⟩
def BadS (p : Nat) (h : PH) (many : Nat) (v : PV) : Prop := NoS many v ∧ ((∃ i, v = .int i) ∨ (∃ b, v = .bl b) ∨ ∃ ty, ty ∉ ["int", "bool"] ∧ Ty p h v ty)
theorem BadS.mono {p : Nat} {h h' : PH} {many : Nat} {v : PV} (b : BadS p h many v) (k : Kp p h h') : BadS p h' many v :=
  ⟨b.1, b.2.imp id fun b => b.imp id fun ⟨ty, n, t⟩ => ⟨ty, n, fun h2 k2 => t h2 (k.trans k2)⟩⟩
theorem BadS.ty {p : Nat} {h : PH} {many : Nat} {v : PV} (b : BadS p h many v) : ∃ ty, tyN v h = some ty ∧ ((∃ i, v = .int i) ∨ (∃ b, v = .bl b) ∨ ty ∉ ["int", "bool"]) := by
  rcases b.2 with ⟨i, rfl⟩ | ⟨i, rfl⟩ | ⟨ty, n, t⟩
  · exact ⟨_, rfl, .inl ⟨i, rfl⟩⟩
  · exact ⟨_, rfl, .inr (.inl ⟨i, rfl⟩)⟩
  · exact ⟨ty, t h Kp.refl, .inr (.inr n)⟩
theorem ty_at {p n : Nat} {h : PH} {o : PO} {ty : String} (e : h[n]? = some o) (np : n ≠ p) (t : ∀ g : PH, g[n]? = some o → tyN (.ref n) g = some ty) : Ty p h (.ref n) ty := fun h' k => t h' (k _ _ e np)
def badE : E := .lst [.k .non, .k (.int 5), .lst [.k (.str ['a'])], .tup [.k (.str ['a'])], .bop .add (.v 2) (.k (.str ['e'])), .k (.str ['A']), .k (.str [' ']), .k (.str ['a', '\n']), .dct [] [], .k (.bl true), .bop .add (.v 2) (.k (.str ['\n'])), .v 1]
def oddE : E := .lst [.neg (.k (.int 1)), .ln ["Machine"] (.v 1), .k (.bl true), .k (.bl false), .k .non, .k (.str ['0']), .lst [.k (.int 0)], .bop .pow (.k (.int 10)) (.k (.int 30))]
theorem alp_ne {s : List Char} (a : Alp s) {c : Char} (hc : c ∉ ['a', 'b', 'c', 'd']) : c ∉ s := by
  have := a.al
  unfold alphB at this
  simp only [Bool.and_eq_true] at this
  intro m
  have := List.all_eq_true.mp this.1.2 c m
  exact hc (by simpa using this)
theorem bad_app {s t : List Char} {c : Char} (m : c ∉ s) : txtB s (.str (t ++ [c])) = false := by
  simp [txtB, m]
section
variable {k p a q qa m : Nat} {s : List Char} {R : List (List Nat)} {A : List Nat} {g : PH}
theorem bad_W {ρ : Mi.Env} (hk : 5 ≤ k) (c : Cx g p a q qa s R A) (o : Ok g p m) (hm : m < 2 ^ 38) (h0 : ρ[0]? = some (some (.ref p))) (h1 : ρ[1]? = some (some (.ref a))) (h2 : ρ[2]? = some (some (.str s))) :
    W (ev (callN tab k) (.call "_law_pick" [.v 0, badE]) ρ g) (fun v g' => BadX p g' s v ∧ St p (m + 1) g g') no := by
  have la := c.alp.len
  simp only [badE, W_cal, W_evs1, W_evs0, W_v, h0, h1, h2, Option.bind_some, id, KO_some, W_lst, W_k, W_dct, W_tup, W_bop, W_cat]
  refine ⟨by simp [szl], by simp [szl], by simp [szl]; omega, by simp [szl]; omega, by simp [szl], ?_⟩
  have lt := o.lt
  have s1 : St p m g (g ++ [PO.lst [.str ['a']]]) := ⟨o.app, Kp.app⟩
  have e1 : (g ++ [PO.lst [.str ['a']]])[g.length]? = some (.lst [.str ['a']]) := get_new
  have l1 : (g ++ [PO.lst [PV.str ['a']]]).length = g.length + 1 := by simp
  generalize g ++ [PO.lst [PV.str ['a']]] = g1 at *
  have s2 : St p m g (g1 ++ [PO.dic []]) := s1.app
  have e2 : (g1 ++ [PO.dic []])[g1.length]? = some (.dic []) := get_new
  have e1' : (g1 ++ [PO.dic []])[g.length]? = some (.lst [.str ['a']]) := get_app e1
  generalize g1 ++ [PO.dic []] = g2 at *
  refine W.mono (pick_W (n := k) (by omega) s2.1.app (by omega) get_new (Nat.ne_of_gt s2.1.lt) (by simp) (by simp)) ?_ (fun _ _ z => z.elim)
  rintro v g' ⟨mv, s3⟩
  have st := s2.app.trans s3
  refine ⟨?_, st⟩
  have f1 : g'[g.length]? = some (.lst [.str ['a']]) := s3.2 _ _ (get_app e1') (Nat.ne_of_gt lt)
  have f2 : g'[g1.length]? = some (.dic []) := s3.2 _ _ (get_app e2) (by omega)
  have f3 := st.2 _ _ c.mach c.na
  simp only [List.mem_cons, List.not_mem_nil, or_false] at mv
  rcases mv with rfl | rfl | rfl | rfl | rfl | rfl | rfl | rfl | rfl | rfl | rfl | rfl
  · exact ⟨rfl, .inr ⟨"NoneType", by decide, fun _ _ => rfl⟩⟩
  · exact ⟨rfl, .inr ⟨"int", by decide, fun _ _ => rfl⟩⟩
  · exact ⟨rfl, .inr ⟨"list", by decide, ty_at f1 (Nat.ne_of_gt lt) fun g e => by simp [tyN, e]⟩⟩
  · exact ⟨rfl, .inr ⟨"tuple", by decide, fun _ _ => rfl⟩⟩
  · exact ⟨bad_app (alp_ne c.alp (by decide)), .inl ⟨_, rfl, by simp [szl]; omega⟩⟩
  · exact ⟨bad_app (t := []) (alp_ne c.alp (by decide)), .inl ⟨_, rfl, by simp [szl]⟩⟩
  · exact ⟨bad_app (t := []) (alp_ne c.alp (by decide)), .inl ⟨_, rfl, by simp [szl]⟩⟩
  · exact ⟨bad_app (t := ['a']) (alp_ne c.alp (by decide)), .inl ⟨_, rfl, by simp [szl]⟩⟩
  · exact ⟨rfl, .inr ⟨"dict", by decide, ty_at f2 (by omega) fun g e => by simp [tyN, e]⟩⟩
  · exact ⟨rfl, .inr ⟨"bool", by decide, fun _ _ => rfl⟩⟩
  · exact ⟨bad_app (alp_ne c.alp (by decide)), .inl ⟨_, rfl, by simp [szl]; omega⟩⟩
  · exact ⟨rfl, .inr ⟨"Machine", by decide, ty_at f3 c.na fun g e => by simp [tyN, e]⟩⟩
theorem odd_W {ρ : Mi.Env} (hk : 5 ≤ k) (c : Cx g p a q qa s R A) (o : Ok g p m) (hm : m < 2 ^ 38) (h0 : ρ[0]? = some (some (.ref p))) (h1 : ρ[1]? = some (some (.ref a))) :
    W (ev (callN tab k) (.call "_law_pick" [.v 0, oddE]) ρ g) (fun v g' => BadS p g' R.length v ∧ St p (m + 1) g g') no := by
  have hf := c.mok.few
  simp only [oddE, W_cal, W_evs1, W_evs0, W_v, h0, h1, Option.bind_some, id, KO_some, W_lst, W_k, W_neg, W_ln, c.cls lk_len, KCl_some]
  refine W.mono (len_W (n := k) (by omega) c.mach) ?_ (fun _ _ z => z.elim)
  rintro _ g ⟨rfl, rfl⟩
  have el : lenR (.int (R.length : Nat)) g = .ok (.int (R.length : Nat)) g := by
    simp only [lenR]
    rw [if_pos (by omega)]
  rw [el, W_ok]
  refine ⟨by simp [szl], ?_⟩
  rw [W_bop, W_k, W_k, W_pow_b (r := 1000000000000000000000000000000) (by decide) (by refine ⟨by decide, ?_⟩; have := log_le (x := 10) (k := 4) (by decide); simp; omega)]
  refine ⟨by simp [szl], ?_⟩
  have lt := o.lt
  have s1 : St p m g (g ++ [PO.lst [.int 0]]) := ⟨o.app, Kp.app⟩
  have e1 : (g ++ [PO.lst [.int 0]])[g.length]? = some (.lst [.int 0]) := get_new
  generalize g ++ [PO.lst [PV.int 0]] = g1 at *
  refine W.mono (pick_W (n := k) (by omega) s1.1.app (by omega) get_new (Nat.ne_of_gt s1.1.lt) (by simp) (by simp)) ?_ (fun _ _ z => z.elim)
  rintro v g' ⟨mv, s3⟩
  have st := s1.app.trans s3
  refine ⟨?_, st⟩
  have f1 : g'[g.length]? = some (.lst [.int 0]) := s3.2 _ _ (get_app e1) (Nat.ne_of_gt lt)
  simp only [List.mem_cons, List.not_mem_nil, or_false] at mv
  rcases mv with rfl | rfl | rfl | rfl | rfl | rfl | rfl | rfl
  · exact ⟨by simp [NoS], .inl ⟨_, rfl⟩⟩
  · exact ⟨by simp only [NoS]; omega, .inl ⟨_, rfl⟩⟩
  · exact ⟨trivial, .inr (.inl ⟨_, rfl⟩)⟩
  · exact ⟨trivial, .inr (.inl ⟨_, rfl⟩)⟩
  · exact ⟨trivial, .inr (.inr ⟨"NoneType", by decide, fun _ _ => rfl⟩)⟩
  · exact ⟨trivial, .inr (.inr ⟨"str", by decide, fun _ _ => rfl⟩)⟩
  · exact ⟨trivial, .inr (.inr ⟨"list", by decide, ty_at f1 (Nat.ne_of_gt lt) fun g e => by simp [tyN, e]⟩)⟩
  · exact ⟨by simp only [NoS]; omega, .inl ⟨_, rfl⟩⟩
end
end Mk04

set_option linter.all false
set_option maxRecDepth 10000
/-! K4d: refusals, the law. -/
namespace Mk04
open Mi Lib
/-- told by the right word -/
theorem tell_W {k : Nat} {b : E} {ρ : Mi.Env} {g : PH} {r : List S} {Q : Fl → PH → Prop} {word : List Char} {c : String} (hk : 1 ≤ k) (hc : (c, word) ∈ words) (w : W (ev (callN tab k) b ρ (g ++ [.lam])) (fun _ _ => False) (fun x h => x.cls = c ∧ PF (g ++ [.lam]) h))
    (next : ∀ g', PF g g' → W (exs (callN tab k) r ρ g') Q no) :
    W (exs (callN tab k) (.ite (.cmp .ne (.lam "_law_told" b) (.k (.str word))) [.ret (.k (.bl false))] [] :: r) ρ g) Q no := by
  rw [W_cons]
  simp only [W_ite, W_cmp, W_k]
  refine W.mono (lam_W hk hc w) ?_ (fun _ _ z => z.elim)
  rintro _ g1 ⟨rfl, p1⟩
  rw [W_ne, eqS]
  simp only [decide_true, KO_some, Bool.not_true, tru_bl, KI_f, W_nil, KF_nx]
  exact next g1 p1
section
variable {k p a q qa m : Nat} {s : List Char} {R : List (List Nat)} {A : List Nat} {g : PH}
theorem end_bad {ρ : Mi.Env} {v : PV} (hk : 8 ≤ k) (c : Cx g p a q qa s R A) (b : BadX p g s v) (h1 : ρ[1]? = some (some (.ref a))) (h3 : ρ[3]? = some (some v)) :
    W (ev (callN tab k) (.mto "end" ["Machine"] (.v 1) [.v 3]) ρ (g ++ [.lam])) (fun _ _ => False) (fun x h => x.cls = "BadText" ∧ PF (g ++ [.lam]) h) := by
  have c1 : Cx (g ++ [.lam]) p a q qa s R A := c.pf PF.app
  obtain ⟨ty, et, od⟩ := (b.mono (h' := g ++ [.lam]) Kp.app).ty
  simp only [W_mto, W_evs1, W_evs0, W_v, h1, h3, Option.bind_some, id, KO_some, c1.cls lk_end]
  exact endB_W (n := k) (by omega) c.mok c1.mach et od b.1
theorem call_bad {ρ : Mi.Env} {v : PV} (hk : 8 ≤ k) (c : Cx g p a q qa s R A) (b : BadX p g s v) (h1 : ρ[1]? = some (some (.ref a))) (h3 : ρ[3]? = some (some v)) :
    W (ev (callN tab k) (.mto "__call__" ["Machine"] (.v 1) [.k (.int 0), .v 3]) ρ (g ++ [.lam])) (fun _ _ => False) (fun x h => x.cls = "BadText" ∧ PF (g ++ [.lam]) h) := by
  have c1 : Cx (g ++ [.lam]) p a q qa s R A := c.pf PF.app
  obtain ⟨ty, et, od⟩ := (b.mono (h' := g ++ [.lam]) Kp.app).ty
  simp only [W_mto, W_evs1, W_evs0, W_v, W_k, h1, h3, Option.bind_some, id, KO_some, c1.cls lk_call]
  exact callT_W (n := k) (by omega) c.mok c1.mach et od b.1
theorem call_odd {ρ : Mi.Env} {v w : PV} {e : E} (hk : 8 ≤ k) (c : Cx g p a q qa s R A) (b : BadS p g R.length v) (h1 : ρ[1]? = some (some (.ref a))) (h4 : ρ[4]? = some (some v)) (he : ∀ (h : PH) (Q : PV → PH → Prop) (X : EQ), W (ev (callN tab k) e ρ h) Q X = Q w h) :
    W (ev (callN tab k) (.mto "__call__" ["Machine"] (.v 1) [.v 4, e]) ρ (g ++ [.lam])) (fun _ _ => False) (fun x h => x.cls = "BadNumber" ∧ PF (g ++ [.lam]) h) := by
  have c1 : Cx (g ++ [.lam]) p a q qa s R A := c.pf PF.app
  obtain ⟨ty, et, od⟩ := (b.mono (h' := g ++ [.lam]) Kp.app).ty
  simp only [W_mto, W_evs1, W_evs0, W_v, he, h1, h4, Option.bind_some, id, KO_some, c1.cls lk_call]
  exact callS_W (n := k) (by omega) c1.mach et od b.1
theorem inB_lk {ρ : Mi.Env} {v : PV} (hk : 8 ≤ k) (c : Cx g p a q qa s R A) (b : BadX p g s v) (h1 : ρ[1]? = some (some (.ref a))) (h3 : ρ[3]? = some (some v)) :
    W (ev (callN tab k) (.inn false ["Machine"] (.v 3) (.v 1)) ρ g) (fun r g' => r = .bl false ∧ PF g g') no := by
  obtain ⟨ty, et, od⟩ := b.ty
  simp only [W_inn, W_v, h1, h3, Option.bind_some, id, KO_some, c.cls lk_in, KCl_some]
  refine W.mono (inB_W (n := k) (by omega) c.mok c.mach et od b.1) ?_ (fun _ _ z => z.elim)
  rintro _ g1 ⟨rfl, p1⟩
  exact ⟨by simp, p1.pf⟩
theorem refused_W {n : Nat} (hn : 12 ≤ n) (c : Cx g p a q qa s R A) (o : Ok g p m) (hm : m < 2 ^ 37) :
    W (callN tab n (.f "_law_refused") [.ref p, .ref a, .str s] g) (fun r g' => r = .bl true ∧ St p (m + 2) g g') no := by
  refine W_call (by omega) rfl rfl fun k hk => ?_
  show W (exs (callN tab k) (.asg (.nm 3) (.call "_law_pick" [.v 0, badE]) :: .asg (.nm 4) (.call "_law_pick" [.v 0, oddE]) :: _) _ g) _ no
  rw [W_cons, W_nm]
  refine W.mono (bad_W (k := k) (by omega) c o (by omega) rfl rfl rfl) ?_ (fun _ _ z => z.elim)
  rintro v g1 ⟨b1, s1⟩
  have c1 := c.mono s1.2
  rw [KF_nx, W_cons, W_nm]
  refine W.mono (odd_W (k := k) (by omega) c1 s1.1 (by omega) rfl rfl) ?_ (fun _ _ z => z.elim)
  rintro w g2 ⟨b2, s2⟩
  have c2 := c1.mono s2.2
  have b1' := b1.mono s2.2
  have st := s1.trans s2
  simp only [KF_nx, List.map_cons, List.map_nil, List.cons_append, List.nil_append, List.replicate, List.set_cons_succ, List.set_cons_zero]
  rw [W_cons]
  simp only [W_ite, W_or]
  refine W.mono (inB_lk (k := k) (by omega) c2 b1' rfl rfl) ?_ (fun _ _ z => z.elim)
  rintro _ g3 ⟨rfl, p3⟩
  have c3 := c2.pf p3
  have b3 := b1'.mono (h' := g3) fun i o e _ => p3 i o e
  have st3 := st.pf p3
  simp only [tru_bl, KO_some, Bool.not_false, KA_t, W_cmp, W_k]
  refine W.mono (lam_W (k := k) (c := "BadText") (word := ['t', 'e', 'x', 't']) (by omega) (by simp [words]) (end_bad (by omega) c3 b3 rfl rfl)) ?_ (fun _ _ z => z.elim)
  rintro _ g4 ⟨rfl, p4⟩
  rw [W_ne, eqS]
  simp only [decide_true, KO_some, Bool.not_true, tru_bl, KI_f, W_nil, KF_nx]
  have c4 := c3.pf p4
  have b4 := b3.mono (h' := g4) fun i o e _ => p4 i o e
  have d4 := (b2.mono (h' := g3) fun i o e _ => p3 i o e).mono (h' := g4) fun i o e _ => p4 i o e
  have st4 := st3.pf p4
  refine tell_W (c := "BadText") (by omega) (by simp [words]) (call_bad (by omega) c4 b4 rfl rfl) fun g5 p5 => ?_
  have c5 := c4.pf p5
  have b5 := b4.mono (h' := g5) fun i o e _ => p5 i o e
  have d5 := d4.mono (h' := g5) fun i o e _ => p5 i o e
  have st5 := st4.pf p5
  refine tell_W (c := "BadNumber") (by omega) (by simp [words]) (call_odd (w := .str []) (by omega) c5 d5 rfl rfl fun _ _ _ => by rw [W_k]) fun g6 p6 => ?_
  have c6 := c5.pf p6
  have d6 := d5.mono (h' := g6) fun i o e _ => p6 i o e
  have st6 := st5.pf p6
  rw [W_cons, W_ret]
  simp only [W_cmp, W_k]
  refine W.mono (lam_W (k := k) (c := "BadNumber") (word := ['n', 'u', 'm', 'b', 'e', 'r']) (by omega) (by simp [words]) (call_odd (w := v) (by omega) c6 d6 rfl rfl fun _ _ _ => by rw [W_v]; rfl)) ?_ (fun _ _ z => z.elim)
  rintro _ g7 ⟨rfl, p7⟩
  rw [W_eq, eqS]
  simp only [decide_true, KO_some, KF_rt, KE_rt]
  exact ⟨by trivial, (st6.pf p7).more (by omega)⟩
end
end Mk04

set_option linter.all false
set_option maxRecDepth 10000
/-! K4e: the law. -/
namespace Mk04
open Mi Lib
def cellB : List S := [.asg (.nm 3) (.call "_law_begin" [.v 2, .v 1]),
  .asg (.nm 4) (.call "_law_alphabet" [.v 3]),
  .asg (.tup [.nm 8, .nm 9]) (.call "_law_table" [.v 3, .v 4, .k (.int 8)]),
  .asg (.nm 5) (.new "Machine" [.v 4, .v 8, .v 9]),
  .for_ (.nm 6) .rng [.k (.int 16)] lapB,
  .ite (.nt (.call "_law_refused" [.v 3, .v 5, .v 4])) [.ret (.k (.bl false))] [],
  .asg (.nm 7) (.bop .mul (.call "_law_word" [.v 3, .v 4, .k (.int 40)]) (.k (.int 50))),
  .ite (.cmp .ne (.mto "end" ["Machine"] (.v 5) [.slc (.v 7) none (some (.k (.int 2000)))]) (.call "_law_run" [.v 4, .v 8, .slc (.v 7) none (some (.k (.int 2000)))])) [.ret (.k (.bl false))] []]
theorem asc_len : ∀ {A : List Nat} {n : Nat}, A.Pairwise (· < ·) → (∀ x ∈ A, x < n) → A.length ≤ n := by
  have H : ∀ (A : List Nat) (lo n : Nat), A.Pairwise (· < ·) → (∀ x ∈ A, lo ≤ x ∧ x < n) → lo ≤ n → A.length + lo ≤ n := by
    intro A
    induction A with
    | nil => intro lo n _ _ l; simpa using l
    | cons x r ih =>
      intro lo n p b l
      obtain ⟨p1, p2⟩ := List.pairwise_cons.mp p
      have hx := b x (by simp)
      have := ih (x + 1) n p2 (fun y hy => ⟨p1 y hy, (b y (by simp [hy])).2⟩) (by omega)
      simp only [List.length_cons]
      omega
  intro A n p b
  have := H A 0 n p (fun x hx => ⟨by omega, b x hx⟩) (by omega)
  omega
theorem wrd_rep {s t : List Char} (w : wrd s t) : ∀ n : Nat, wrd s (List.replicate n t).flatten := by
  intro n c hc
  rw [List.mem_flatten] at hc
  obtain ⟨l, hl, hc⟩ := hc
  rw [List.eq_of_mem_replicate hl] at hc
  exact w c hc
theorem wrd_cut {s t : List Char} (w : wrd s t) {lo hi : Option Int} : wrd s (cutL t lo hi) := by
  intro c hc
  unfold cutL at hc
  exact w c (List.mem_of_mem_drop (List.mem_of_mem_take hc))
theorem cut_len {t : List Char} {lo hi : Option Int} : (cutL t lo hi).length ≤ t.length := by
  unfold cutL
  rw [List.length_take, List.length_drop]
  omega
theorem rep_len {t : List Char} {n : Nat} : (List.replicate n t).flatten.length = n * t.length := by
  induction n with
  | zero => simp
  | succ n ih => rw [List.replicate_succ, List.flatten_cons, List.length_append, ih, Nat.add_mul]; omega
theorem mul_W {t : List Char} {h : PH} {Q : PV → PH → Prop} {X : EQ} (l : t.length * 50 ≤ szl) : W (bopV .mul (.str t) (.int 50) h) Q X = Q (.str (List.replicate 50 t).flatten) h := by
  have e : bopV .mul (.str t) (.int 50) h = .ok (.str (List.replicate 50 t).flatten) h := by
    simp only [bopV]
    rw [if_pos ⟨by decide, by decide, by simpa using l⟩]
    rfl
  rw [e]
  rfl
theorem cell_W {k t : Nat} {x : Int} {v0 o3 o4 o5 o6 o7 o8 o9 o10 o11 o12 : Option PV} {h : PH} (hk : 30 ≤ k) (ht : t < 100) :
    W (exs (callN tab k) cellB [v0, some (.int (t : Nat)), some (.int x), o3, o4, o5, o6, o7, o8, o9, o10, o11, o12] h)
      (fun f h' => ∃ o3 o4 o5 o6 o7 o8 o9 o10 o11 o12, f = .nx [v0, some (.int (t : Nat)), some (.int x), o3, o4, o5, o6, o7, o8, o9, o10, o11, o12] ∧ Kp h.length h h') no := by
  rw [cellB, W_cons]
  simp only [W_nm, W_cal, W_evs1, W_evs0, W_v, List.getElem?_cons_succ, List.getElem?_cons_zero, Option.bind_some, id, KO_some]
  refine W.mono (begin_W (n := k) (by omega) ht) ?_ (fun _ _ z => z.elim)
  rintro _ h1 ⟨rfl, s1⟩
  simp only [KF_nx, List.set_cons_succ, List.set_cons_zero]
  rw [W_cons]
  simp only [W_nm, W_cal, W_evs1, W_evs0, W_v, List.getElem?_cons_succ, List.getElem?_cons_zero, Option.bind_some, id, KO_some]
  refine W.mono (abc_W (n := k) (by omega) s1.1 (by decide)) ?_ (fun _ _ z => z.elim)
  rintro _ h2 ⟨⟨s, rfl, al⟩, s2⟩
  simp only [KF_nx, List.set_cons_succ, List.set_cons_zero]
  rw [W_cons]
  simp only [W_asg, W_cal, W_evs1, W_evs0, W_v, W_k, List.getElem?_cons_succ, List.getElem?_cons_zero, Option.bind_some, id, KO_some]
  refine W.mono (table_W (n := k) (most := 8) (by omega) s2.1 (by decide) al (by decide) (by decide)) ?_ (fun _ _ z => z.elim)
  rintro _ h3 ⟨q, qa, R, A, rfl, rwl, ea, na, mok, lR, pw, bd, lq, lqa, s3⟩
  have st3 := (s1.trans s2).trans s3
  simp only [bindT_tup, bindTs_cons, bindTs_nil, KO_some, KF_nx, List.set_cons_succ, List.set_cons_zero]
  rw [W_cons]
  simp only [W_nm, W_new, W_evs1, W_evs0, W_v, List.getElem?_cons_succ, List.getElem?_cons_zero, Option.bind_some, id, KO_some]
  have s4 : St h.length (0 + 1 + 400) h (h3 ++ [PO.ins "Machine" []]) := st3.app
  have k4 : Kp h.length h3 (h3 ++ [PO.ins "Machine" []]) := Kp.app
  have e4 : (h3 ++ [PO.ins "Machine" []])[h3.length]? = some (.ins "Machine" []) := get_new
  have ne4 : h3.length ≠ h.length := Nat.ne_of_gt st3.1.lt
  have nd : A.Nodup := pw.imp fun hlt e => by omega
  have lA : A.length < 60 := by
    have := asc_len pw bd
    omega
  refine W.mono (init_W (n := k) (A := A) (by omega) mok (rwl.mono k4).rws (.inr ⟨qa, rfl, k4 _ _ ea na⟩) ⟨qa, rfl⟩ nd lA bd e4) ?_ (fun _ _ z => z.elim)
  rintro _ h5 ⟨rfl, k5, e5⟩
  refine ⟨rfl, ?_⟩
  rw [mkV_asc pw] at e5
  obtain ⟨a1, b1, c1, x1, x2⟩ := s4.1
  have o5 : Ok h5 h.length (0 + 1 + 400) := ⟨a1, b1, c1, k5 _ _ x1 ne4.symm, x2⟩
  have k5' : Kp h.length h h5 := by
    intro i o e hi
    refine k5 i o (s4.2 i o e hi) ?_
    have := (List.getElem?_eq_some_iff.mp e).1
    have := s2.len
    have := st3.len
    omega
  have st5 : St h.length (0 + 1 + 400) h h5 := ⟨o5, k5'⟩
  obtain ⟨nq, qs, eq, lqs, fq⟩ := rwl
  have keep : ∀ i o, h3[i]? = some o → h5[i]? = some o := fun i o e => k5 i o (get_app e) (by
    have := (List.getElem?_eq_some_iff.mp e).1
    omega)
  have cx : Cx h5 h.length h3.length q qa s R A := ⟨al, mok, e5, ne4, ⟨nq, qs, keep _ _ eq, lqs, fun i b r e1 e2 => ⟨(fq i b r e1 e2).1, (fq i b r e1 e2).2.1, keep _ _ (fq i b r e1 e2).2.2⟩⟩, keep _ _ ea, na⟩
  simp only [KF_nx, List.set_cons_succ, List.set_cons_zero]
  rw [W_cons]
  simp only [W_for, W_evs1, W_evs0, W_k]
  rw [its_rng (by decide) (by decide)]
  refine KL_of ?_
  refine W_forL (fun r ρ g => ∃ v6 v7 v10 v11 v12, ρ = En v0 (some (.int (t : Nat))) (some (.int x)) h.length s h3.length v6 v7 q qa v10 v11 v12 ∧ r.length ≤ 16 ∧ Cx g h.length h3.length q qa s R A ∧ St h.length (401 + (16 - r.length) * 14) h g) ?_ ?_ _ _ _ ⟨_, _, _, _, _, rfl, by simp [rngL_len], cx, by simpa [rngL_len] using st5⟩
  · rintro y r ρ g ⟨v6, v7, v10, v11, v12, rfl, hl, c, st⟩
    refine ⟨rfl, ?_⟩
    simp only [List.length_cons] at hl
    rw [W_step]
    simp only [List.set_cons_succ, List.set_cons_zero]
    refine (lap_W (by omega) c st (by simp only [List.length_cons]; omega)).mono ?_ fun _ _ z => z
    rintro _ g2 ⟨v7, v10, v11, v12, rfl, c2, st2⟩
    exact ⟨_, _, _, _, _, rfl, by omega, c2, st2.more (by simp only [List.length_cons]; omega)⟩
  · rintro ρ g ⟨v6, v7, v10, v11, v12, rfl, hl, c, st⟩
    refine ⟨rfl, ?_⟩
    rw [KF_nx, W_cons]
    simp only [W_ite, W_nt, W_cal, W_evs1, W_evs0, W_v, List.getElem?_cons_succ, List.getElem?_cons_zero, Option.bind_some, id, KO_some]
    refine W.mono (refused_W (n := k) (by omega) c st.1 (by simp)) ?_ (fun _ _ z => z.elim)
    rintro _ g2 ⟨rfl, s2'⟩
    have c2 := c.mono s2'.2
    simp only [tru_bl, KO_some, Bool.not_true, KI_f, W_nil, KF_nx]
    rw [W_cons]
    simp only [W_nm, W_bop, W_cal, W_evs1, W_evs0, W_v, W_k, List.getElem?_cons_succ, List.getElem?_cons_zero, Option.bind_some, id, KO_some]
    refine W.mono (word_W (n := k) (most := 40) (by omega) s2'.1 (by simp) al (by decide)) ?_ (fun _ _ z => z.elim)
    rintro _ g3 ⟨⟨w, rfl, ww, lw⟩, s3'⟩
    have c3 := c2.mono s3'.2
    rw [mul_W (by simp only [szl]; omega)]
    have l5 : (List.replicate 50 w).flatten.length ≤ 2000 := by rw [rep_len]; omega
    have ww5 := wrd_rep ww 50
    generalize (List.replicate 50 w).flatten = w5 at *
    simp only [KF_nx, List.set_cons_succ, List.set_cons_zero]
    rw [W_cons]
    have wc := wrd_cut ww5 (lo := none) (hi := some 2000)
    have lc : (cutL w5 none (some 2000)).length < szl := by
      have := cut_len (t := w5) (lo := none) (hi := some 2000)
      simp only [szl]
      omega
    have sl : ∀ (h : PH) (Q : PV → PH → Prop) (X : EQ), W (slcV (.str w5) none (some 2000) h) Q X = Q (.str (cutL w5 none (some 2000))) h := fun h Q X => by
      simp only [slcV]
      rw [if_pos (by simp only [szl]; omega)]
      rfl
    simp only [W_ite, W_cmp, W_mto, W_evs1, W_evs0, W_v, W_slc, W_evo0, W_evo1, W_k, KOI_int, sl, List.getElem?_cons_succ, List.getElem?_cons_zero, Option.bind_some, id, KO_some, c3.cls lk_end]
    refine W.mono (end_W (n := k) (by omega) mok c3.mach (wrd_txt wc) lc) ?_ (fun _ _ z => z.elim)
    rintro _ g4 ⟨rfl, p4⟩
    have c4 := c3.pf p4.pf
    simp only [W_cal, W_evs1, W_evs0, W_v, W_slc, W_evo0, W_evo1, W_k, KOI_int, sl, List.getElem?_cons_succ, List.getElem?_cons_zero, Option.bind_some, id, KO_some]
    refine W.mono (run_W (n := k) (by omega) mok c4.rows.rws (wrd_txt wc) lc) ?_ (fun _ _ z => z.elim)
    rintro _ _ ⟨rfl, rfl⟩
    simp only [W_ne, eqI, decide_true, KO_some, Bool.not_true, tru_bl, KI_f, W_nil, KF_nx]
    exact ⟨_, _, _, _, _, _, _, _, _, _, rfl, ((st.trans s2').trans s3').2.trans (pf_st s3'.1 p4.pf).2⟩
end Mk04

set_option linter.all false
set_option maxRecDepth 10000
/-! K4f: all cells. -/
namespace Mk04
open Mi Lib
theorem enumL_mem {y : PV} : ∀ {xs : List PV} {lo : Nat}, y ∈ enumL lo xs → ∃ (t : Nat) (x : PV), y = .tup [.int t, x] ∧ x ∈ xs ∧ lo ≤ t ∧ t < lo + xs.length
  | [], _, m => by simp [enumL] at m
  | x :: r, lo, m => by
    simp only [enumL, List.mem_cons] at m
    rcases m with rfl | m
    · exact ⟨lo, x, rfl, by simp, by omega, by simp⟩
    · obtain ⟨t, z, e, mz, h1, h2⟩ := enumL_mem m
      exact ⟨t, z, e, by simp [mz], by omega, by simp only [List.length_cons]; omega⟩
theorem cells_W {k q : Nat} {cells : List Int} {h : PH} (hk : 30 ≤ k) (hq : h[q]? = some (.lst (cells.map .int))) (hl : cells.length ≤ 12) (v0 : PV) :
    W (forL [(q, .lst (cells.map .int))] (forStep (callN tab k) (.tup [.nm 1, .nm 2]) cellB) (enumL 0 (cells.map .int)) [some v0, none, none, none, none, none, none, none, none, none, none, none, none] h)
      (KF (callN tab k) [.ret (.k (.bl true))] (KE (fun r _ => r = .bl true) no) no) no := by
  refine W_forL (fun l ρ h1 => ∃ o1 o2 o3 o4 o5 o6 o7 o8 o9 o10 o11 o12, (∀ y ∈ l, y ∈ enumL 0 (cells.map .int)) ∧ h1[q]? = some (.lst (cells.map .int)) ∧ ρ = [some v0, o1, o2, o3, o4, o5, o6, o7, o8, o9, o10, o11, o12]) ?_ ?_ _ _ h ⟨none, none, none, none, none, none, none, none, none, none, none, none, fun _ z => z, hq, rfl⟩
  · rintro x l ρ h1 ⟨o1, o2, o3, o4, o5, o6, o7, o8, o9, o10, o11, o12, ml, hq1, rfl⟩
    refine ⟨okG_one hq1, ?_⟩
    obtain ⟨t, y, rfl, my, _, ht⟩ := enumL_mem (ml x (by simp))
    obtain ⟨c, _, rfl⟩ := List.mem_map.mp my
    simp only [List.length_map] at ht
    rw [W_step2]
    simp only [bindT_tup, bindTs_cons, bindTs_nil, KO_some, List.set_cons_succ, List.set_cons_zero]
    refine (cell_W hk (by omega)).mono ?_ fun _ _ z => z
    rintro _ h2 ⟨o3, o4, o5, o6, o7, o8, o9, o10, o11, o12, rfl, kp⟩
    have hne : q ≠ h1.length := by
      have := (List.getElem?_eq_some_iff.mp hq1).1
      omega
    exact ⟨_, _, _, _, _, _, _, _, _, _, _, _, fun y hy => ml y (by simp [hy]), kp q _ hq1 hne, rfl⟩
  · rintro ρ h1 ⟨o1, o2, o3, o4, o5, o6, o7, o8, o9, o10, o11, o12, ml, hq1, rfl⟩
    refine ⟨okG_one hq1, ?_⟩
    simp
theorem its_enum {cs : List Int} {h : PH} : itsOf .enum [.ref h.length] (h ++ [.lst (cs.map .int)]) = some ⟨enumL 0 (cs.map .int), [(h.length, .lst (cs.map .int))]⟩ := by
  simp only [itsOf, ofLst, get_new, Option.map_some]
theorem law_W (ns : List Int) : W (callN tab 50 (.f "law") [.ref 0] [.frz (ns.map .int)]) (fun r _ => r = .bl true) no := by
  refine W_call (by omega) rfl rfl fun k hk => ?_
  show W (exs _ [.for_ (.tup [.nm 1, .nm 2]) .enum [.slc (.or (.v 0) (.lst [.k (.int 5)])) none (some (.k (.int 12)))] cellB, .ret (.k (.bl true))] [some (.ref 0), none, none, none, none, none, none, none, none, none, none, none, none] _) _ _
  rw [W_cons, W_for]
  have hcut : ∀ (ns : List Int), cutL (ns.map PV.int) none (some 12) = (ns.take 12).map .int := fun ns => by
    unfold cutL
    simp [sIx]
  cases ns with
  | nil =>
    simp [tru, szl, -List.length_append, -List.append_assoc]
    rw [W_ls (n := 1) (xs := [PV.int 5]) rfl]
    have := hcut [5]
    simp only [List.map_cons, List.map_nil] at this
    rw [this]
    rw [its_enum]
    exact KL_of (cells_W (by omega) get_new (by simp) _)
  | cons n r =>
    simp [tru, -List.length_append, -List.append_assoc, -List.map_cons]
    rw [show slcV (.ref 0) none (some 12) [PO.frz ((n :: r).map PV.int)] = .ok (.ref 1) ([PO.frz ((n :: r).map PV.int)] ++ [.lst (((n :: r).take 12).map .int)]) by rw [← hcut]; rfl, W_ok]
    have e := its_enum (cs := (n :: r).take 12) (h := [PO.frz ((n :: r).map PV.int)])
    simp only [List.length_cons, List.length_nil, Nat.zero_add] at e
    rw [e]
    exact KL_of (cells_W (by omega) (by rfl) (by simp; omega) _)
theorem law_ok (ns : List Int) (_ : ns.length ≤ 63) : ∃ h', callN tab 50 (.f "law") [.ref 0] [.frz (ns.map .int)] = .ok (.bl true) h' := by
  obtain ⟨a, h', e, rfl⟩ := (law_W ns).get
  exact ⟨h', e⟩
end Mk04

theorem PySem.Challenge.cw_smallasks_k04_machines_read_texts_holds : PySem.Challenge.rw_smallasks_k04_machines_read_texts.Holds :=
  Mk04.holds_of Mk04.law_ok
