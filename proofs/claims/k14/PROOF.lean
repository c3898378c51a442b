import PyProof.Rows.All
import Wide.All
import OpenK.AllK
import Wide.FinOn
import HandS.ForMost
import HandS.ForExc
import HandS.IsInst
import HandS.ExcIs
import HandS.ExcField
import PyProof.TupleIter
import HandS.SortInts
import HandS.TupMul
import HandS.TupAny
import HandS.Flow
import HandS.Walk
import HandS.Lambda
import KE.KDictKeyed
import HandS.Wide
import PyProof.EqKinds
import PyProof.NeKinds
import HandS.Deep
import PyProof.P3In
import HandS.Property
import HandS.Conv
import HandS.TupLen
import HandS.WordsDict
import HandS.TryOnly
import HandS.Small
import HandS.Iter
import HandS.Ends
import HandS.Defaults
import HandS.Head0
import HandS.Head1
import HandS.Head2
import HandS.HeadEnd
import HandS.HeadHook1
import HandS.HeadHook2
import HandS.HeadHook3
import HandS.Strs
import HandS.SetFor
import HandS.SetTxt0
import PyProof.ReprRoads
import PyProof.ReprText
import PyProof.CallFns
import HandS.Style
import HandS.ExcInit
import HandS.Text
import KE.GoesEnum
import HandS.Dict
import HandS.More
import HandS.Exc
import HandS.ExcValue
import HandS.EndBits
import KE.KNestM
import HandS.New
import HandS.Zip
import KE.KCallOwn
import HandS.Replace
import KE.KIsAll
import KE.GoesMore
import HandS.DictComp
import KE.KDictCopyH
import HandS.Star
import KE.GoesZip
import KE.KDictZip
import KE.KDictDisplayH
import PyProof.DictTable
import KE.KSortTupAny
import HandS.SortOrd
import HandS.SortRule
import KE.KOpsOwn
import HandS.RaiseMore
import HandS.OwnEq
import KE.KIndexOf
import HandS.TupSets
import KE.KDictWalk
import HandS.SetBool
import PySem.Challenge.RW_smallasks_k14_matches_by_splitting
set_option Elab.async false
set_option linter.all false
set_option Elab.async false
set_option linter.all false
set_option maxRecDepth 100000
namespace Mi
open PySem PySem.Spec PyProof.Rows L2
/-- an exception that was caught: at a, of the class cls, its dict at d -/
def EXO (cls : Value) (d : Option Addr) (a : Addr) : HO := .ext fun h => ∃ (oe : Obj) (vs : Array Value), h.get? a = some oe ∧ Zc cls d oe ∧ oe.data = .fields vs
theorem exo2_ok {P : Program} {w : World} {H : Hp} {h : Heap} {a : Addr} {cls : Value} {d : Option Addr} {oe : Obj} {vs : Array Value} (e : h.get? a = some oe) (z : Zc cls d oe) (hd : oe.data = .fields vs) : ObjOk P w H h a (EXO cls d a) :=
  ⟨⟨oe, vs, e, z, hd⟩, ⟨oe, e⟩, fun _ _ ⟨o, v, q, r⟩ k => ⟨o, v, k o q, r⟩⟩
section
variable {X : Cx} {pins : List (Addr × Obj)} {σ : L2.St} {H : Hp} {s sI : Shared}
/-- the caught exception is tracked from now on -/
theorem Inv.caught {a : Addr} {cls : Value} {d : Option Addr} {oe : Obj} {vs : Array Value} (I : Inv X pins σ H s) (he : s.heap.get? a = some oe) (hz : Zc cls d oe) (hd : oe.data = .fields vs) (na : H a = none) (nL : a ≠ X.env.locals) (n0 : ∀ o, X.s_0.heap.get? a = some o → X.H_0 a = none → a ∉ X.ex → False) (np : ∀ p ∈ X.pn ++ pins, p.1 ≠ a) :
    Inv (X.suite a (X.pn ++ pins)) [] σ (upd H a (EXO cls d a)) s := by
  have neN : ∀ b o, H b = some o → b ≠ a := fun b o e z => by
    rw [z, na] at e
    cases e
  refine ⟨I.ok.suite _ _, I.os, I.bare, ⟨I.base.keep, I.base.slot, fun b o e n hx => ?_, I.base.there, fun b xs e => ?_, fun b o u e => ?_, fun b ps e => ?_⟩, I.loc, I.cell, ?_, fun x c e => ?_, fun p hp => ?_, fun b u e => ?_, I.len⟩
  · by_cases hb : b = a
    · subst hb
      exact (n0 o e n hx).elim
    · rw [upd_ne hb]
      exact I.base.free b o e n hx
  · have q := I.base.tups b xs e
    rw [upd_ne (neN b _ q)]
    exact q
  · have q := I.base.frzs b o u e
    rw [upd_ne (neN b _ q)]
    exact q
  · obtain ⟨m, q⟩ := I.base.tbls b ps e
    exact ⟨m, by rw [upd_ne (neN b _ q)]; exact q⟩
  · show upd H a (EXO cls d a) X.env.locals = none
    rw [upd_ne (Ne.symm nL)]
    exact I.free
  · have hc : c ≠ a := fun z => by
      obtain ⟨v, o, ho, hv⟩ := I.cell x c e
      rw [z, he] at ho
      cases ho
      rw [hd] at hv
      cases hv
    rw [upd_ne hc]
    exact I.freeC x c e
  · have hp' : p ∈ X.pn ++ pins := by
      have z : p ∈ (X.pn ++ pins) ++ [] := hp
      rw [List.append_nil] at z
      exact z
    obtain ⟨e, n, ne, nf, dd⟩ := I.pin p hp'
    exact ⟨e, by rw [upd_ne (np p hp')]; exact n, ne, nf, dd⟩
  · by_cases hb : b = a
    · subst hb
      rw [upd_same] at e
      cases e
      exact exo2_ok he hz hd
    · rw [upd_ne hb] at e
      exact (I.hok b u e).stay (fun c v _ q => q) (fun c q => by rw [upd_ne (neN c _ q)]; exact q) fun c xs q => by rw [upd_ne (neN c _ q)]; exact q
theorem Inv.uncaught {a : Addr} {pn' : List (Addr × Obj)} (I : Inv (X.suite a (X.pn ++ pins)) pn' σ H s) (ok : X.Ok) : Inv X pins σ H s :=
  ⟨ok, I.os, I.bare, I.base, I.loc, I.cell, I.free, I.freeC, fun p hp => I.pin p (List.mem_append_left _ hp), I.hok, I.len⟩
end
/-- what 'except x as n' wishes of an exception of the body: slot i is n's; the exception stays -/
def wOwn (K : PySem.W.Frag) (c : Value) (i : Nat) (ts : TS) (Wout : WX) (D : Ends) : WX := fun cls d σ H =>
  ∃ b, PySem.W.exmOne K cls c = some b ∧ (b = true → ∀ a, H a = none → ts { nx := fun σ' H' => D.nx (σ'.set i none) H', rt := D.rt, bk := fun σ' H' => D.bk (σ'.set i none) H', ct := fun σ' H' => D.ct (σ'.set i none) H' } (σ.set i (some (.ref a))) (upd H a (EXO cls d a))) ∧
    (b = false → Wout cls d σ H)
section
variable {X : Cx} {x n : Str} {c : Value} {i : Nat} {body suite : List Stmt} {b₀ : Stmt} {np pos pos' : Pos} {tb : WX → TS} {ts : TS} {Wout : WX}
theorem ps_try_own (hs : X.stack = X.env :: X.outer) (hf : X.env.frame = some X.env.locals) (hN : X.N.Nodup) (hi : X.N[i]? = some n) (hln : X.env.kindOf n = some .local) (hc : Names X x c) (tk : Takes X Wout)
    (hb : ∀ (W : WX) (pn : List (Addr × Obj)) (xe : Value → Shared → Prop), Takes (X.tr pn xe) W → PassesOwn (model X.prog X.w) X.A X.env xe → PSs (X.tr pn xe) body (tb W))
    (hsu : ∀ (a : Addr) (pn : List (Addr × Obj)), PSs (X.suite a pn) (b₀ :: suite) ts) :
    PS X (.Try body [.ExceptHandler (some (.Name x np)) (some n) (b₀ :: suite) pos'] [] [] pos) (fun D σ H => tb (wOwn X.K c i ts Wout D) D σ H) := by
  refine ⟨fun pins s σ H D I h => ?_⟩
  have ok := I.ok
  have hfr : X.A.frames = some (X.env :: X.outer) := by rw [ok.frames, hs]
  have hloc : Loc X.env.scope n := .inl hln
  refine wpAny_Try_except ?_
  refine wpAny_mono ((hb (wOwn X.K c i ts Wout D) (X.pn ++ pins) (fun e s₁ => wpAny (model X.prog X.w) X.A (noteFrame e X.env) (fun _ s₂ => wpAny (model X.prog X.w) X.A (setFlight e none) (fun _ s₃ =>
    wpAny (model X.prog X.w) X.A (handleBy e X.env [.ExceptHandler (some (.Name x np)) (some n) (b₀ :: suite) pos']) (SP X pins D) X.xe s₃) X.xe s₂) X.xe s₁) (fun u t1 xx => ?_) PassesOwn.looking).run [] s σ H D (I.toTry _) h) (fun f s1 hsp => ?_) (fun e s1 he => he)
  · obtain ⟨a, B, t0, pins', τ1, H1, cls, d, rfl, I1, nb, lift, fly, na, osq, bare, b, mb, yes, nay⟩ := xx
    have J : Inv X pins τ1 H1 t0 := I1.ofTry ok
    have sky' : Sky B (X.env :: X.outer) a (Zc cls d) X.env.locals t1.heap := by rw [← hs]; exact fly
    show wpAny (model X.prog X.w) X.A (noteFrame (.ref a) X.env) _ _ _
    refine Sky.land Zc.steady hfr hf sky' fun ha fa ua => ?_
    have Ia : Inv X pins τ1 H1 { t1 with heap := ha } := J.landed nb fa.1 (lift.trans ua) osq bare
    obtain ⟨oa, va, ea, za, da⟩ := fa.there
    have noF : ∀ {h : Heap} {o : Obj} {vs : Array Value}, h.FunFrames B (X.env :: X.outer) → h.get? a = some o → o.data = .fields vs → a ∉ frs (X.env :: X.outer) := fun {h o vs} ff e dd hm => by
      obtain ⟨_, o', e', hnf⟩ := ff.mem hm
      rw [e] at e'; cases e'
      exact hnf _ dd
    have nf1 := noF fa.2.2.1 ea da
    have nL : a ≠ X.env.locals := fun z => nf1 (List.mem_filterMap.mpr ⟨X.env, List.mem_cons_self, by rw [hf, z]⟩)
    have nF : a ∉ X.fs := fun hm => by
      obtain ⟨e, he, q⟩ := List.mem_filterMap.mp hm
      exact nf1 (List.mem_filterMap.mpr ⟨e, List.mem_cons_of_mem _ he, q⟩)
    have nB : B.get? a = none := fa.2.1
    have nfs : a ∉ frs X.stack := by rw [hs]; exact nf1
    have nI : ∀ o, t0.heap.get? a = some o → False := fun o e => by
      have z := nb a o e nfs
      rw [nB] at z
      cases z
    have n0 : ∀ o, X.s_0.heap.get? a = some o → X.H_0 a = none → a ∉ X.ex → False := fun o e _ hx => by
      obtain ⟨o', q⟩ := J.base.there a o e hx
      exact nI o' q
    have npn : ∀ p ∈ X.pn ++ pins, p.1 ≠ a := fun p hp z => by
      obtain ⟨e, _⟩ := J.pin p hp
      rw [z] at e
      exact nI _ e
    have Sa := Ia.suite ea da na nL nF
    refine wpAny_handleBy_cons (codeAny_handlers_test ?_) (by intro q; cases q)
    have ty : PySem.W.Looks (model X.prog X.w) ha (typeOf (.ref a)) cls := fun A Q E s k q => wpAny_typeOf_ref (k _ _ ea) (by rw [za.1]; exact q)
    have mt := PySem.W.exm_one (M := model X.prog X.w) (Ia.kIn) ty mb
    have tst1 : ∀ {Q : Value → Shared → Prop} {E : Value → Shared → Prop}, Q c { t1 with heap := ha } → wpAny (model X.prog X.w) (X.A.mark (some (.ref a))) (eval (.Name x np) X.env) Q E { t1 with heap := ha } := fun {Q E} q => by
      obtain ⟨hg, hdbg, hm | ⟨hm, hv, hnn⟩⟩ := hc
      · exact ld_glob (X := X.suite a ((a, oa) :: (X.pn ++ pins))) Sa hg hm q hdbg
      · exact ld_blt (X := X.suite a ((a, oa) :: (X.pn ++ pins))) Sa hg hm hv q hnn hdbg
    refine tst1 (mt.here ?_)
    cases b with
    | true =>
      refine codeAny_handlers_suite_as ?_
      refine HandSPX.lands_againZ fa fun hb fb ub => ?_
      have Ib : Inv X pins τ1 H1 { t1 with heap := hb } := J.landed nb fb.1 ((lift.trans ua).trans ub) osq bare
      obtain ⟨ob, vb, eb, zb, db⟩ := fb.there
      have Sb : Inv (X.suite a (X.pn ++ pins)) [] τ1 (upd H1 a (EXO cls d a)) { t1 with heap := hb } := Inv.caught Ib eb zb db na nL n0 npn
      refine store_ok (X := X.suite a (X.pn ++ pins)) (v := .ref a) Sb hN hi hloc rfl (fun sc Sc => ?_) (.inr hln)
      refine wpAny_mono ((hsu a (X.pn ++ pins)).run [] sc _ (upd H1 a (EXO cls d a)) _ Sc (yes rfl a na)) (fun f sd hsp => ?_) (fun _ _ z => False.elim z)
      have fin1 : ∀ {σd : L2.St} {Hd : Hp} {Q : Shared → Prop}, Inv (X.suite a (X.pn ++ pins)) [] σd Hd sd → (∀ se, Inv X pins (σd.set i none) Hd se → Q se) →
          wpAny (model X.prog X.w) X.A (do bindName X.env n .none; unbindBehindTheSuite X.env n pos') (fun _ se => Q se) X.xe sd := fun {σd Hd Q} Sd hq => gone_ok (Inv.uncaught Sd ok) hN hi hln hq
      cases f with
      | next =>
        obtain ⟨σd, Hd, Sd, qd⟩ := hsp
        exact fin1 Sd fun se Ie => ⟨_, _, Ie, qd⟩
      | brk =>
        obtain ⟨σd, Hd, Sd, qd⟩ := hsp
        exact fin1 Sd fun se Ie => ⟨_, _, Ie, qd⟩
      | cont =>
        obtain ⟨σd, Hd, Sd, qd⟩ := hsp
        exact fin1 Sd fun se Ie => ⟨_, _, Ie, qd⟩
      | ret u =>
        obtain ⟨vd, σd, Hd, Sd, rd, qd⟩ := hsp
        exact fin1 Sd fun se Ie => ⟨_, _, _, Ie, rd, qd⟩
    | false =>
      show wpAny _ X.A (handleBy (.ref a) X.env []) _ _ _
      refine wpAny_handleBy_nil ?_
      obtain ⟨k1, k2, k3, oe, vs, T, oT, ts', he, hz, hd, h1, hr⟩ := id fa
      unfold PySem.passOn
      refine wpAny_bind (wpAny_field he hd h1 ?_)
      rw [if_neg (show ¬ ((Value.ref T == Value.none) = true) from by simp)]
      have fin2 : wpAny (model X.prog X.w) X.A (setFlight (.ref a) X.env.frame) (fun _ s4 => wpAny (model X.prog X.w) X.A (throw (.ref a) : Sem Flow) (SP X pins D) X.xe s4) X.xe { t1 with heap := ha } := by
        rw [hf]
        refine HandSPX.setFlight_upZ fa fun hb hh4 ub => wpAny_throw (tk _ _ ?_)
        exact ⟨a, B, t0, pins, τ1, H1, cls, d, rfl, J, nb, (lift.trans ua).trans ub, .inr (.inr (by rw [hs]; exact hh4)), na, osq, bare, nay rfl⟩
      first
        | exact wpAny_bind (wpAny_pure (wpAny_bind fin2))
        | exact wpAny_bind fin2
  · cases f with
    | next =>
      obtain ⟨τ1, H1, I1, q⟩ := hsp
      exact wpAny_execs_nil ⟨τ1, H1, I1.ofTry ok, q⟩
    | brk =>
      obtain ⟨τ1, H1, I1, q⟩ := hsp
      exact ⟨τ1, H1, I1.ofTry ok, q⟩
    | cont =>
      obtain ⟨τ1, H1, I1, q⟩ := hsp
      exact ⟨τ1, H1, I1.ofTry ok, q⟩
    | ret u =>
      obtain ⟨v, τ1, H1, I1, r, q⟩ := hsp
      exact ⟨v, τ1, H1, I1.ofTry ok, r, q⟩
end
end Mi
set_option Elab.async false
set_option linter.all false
set_option maxRecDepth 100000
namespace PySem.W
open PySem PySem.Spec PySem.Calls PyProof.Rows
section
variable {prog : Program} {w : World} {A : Around} {E : Value → Shared → Prop} {s : Shared} {K : Frag} {x D : Addr} {oi : Obj} {od : Option Obj}
theorem mi_findClass (hdct : hasDictIn K D = true) {at1 gt1 : Value} {nm : Str} (h1 : findIn K (.ref D) nm = some (some at1)) (h2 : specialIn K at1 "__get__" = some (some gt1)) (h3 : takesIn K at1 = some true) : findObj K D od nm = some (.bind gt1 at1) := by
  obtain ⟨cd, hc, _⟩ := any_some hdct
  unfold findObj
  simp only [hc, h1, h2, h3, Option.bind_some]
theorem mi_class {Q : Option Value → Shared → Prop} (C : L2.ExcC K D) (KI : K.In s.heap) (I : InstAt s.heap x oi D od) (q : Q (some (.ref D)) { s with toks := s.toks + 1 }) : wpAny (model prog w) A (getAttr? (.ref x) "__class__") Q E s := by
  obtain ⟨hp, gn, dw, tk, oz⟩ := s
  have fo : findObj K D od "__class__" = some (.bind (.builtin "getset_descriptor.__get__") (.builtin "object.__class__")) := mi_findClass C.hd C.ha C.hn C.ht
  have ty := I.type (M := model prog w)
  have lg := looks_findIn (M := model prog w) KI C.hg
  have lk := looks_findIn (M := model prog w) KI C.hk
  have lf := looks_find (M := model prog w) KI I fo
  have sb : Looks (model prog w) hp (isInstance (.ref x) (.type "BaseException")) true := ty.andThen (looks_subIn KI C.hs)
  have z2 : (Value.builtin "BaseException.__getattribute__" == Value.builtin "object.__getattribute__") = false := by decide +kernel
  unfold getAttr? getAttrBy? getAttrBy
  refine wpAny_bind (wpAny_mkText (wpAny_bind (wpAny_attempt (wpAny_holding (wpAny_bind (ty.at (wpAny_bind (lg.at ?_))))))))
  show wpAny _ _ (if (onTheHeap (Value.ref D) && Value.builtin "BaseException.__getattribute__" == Value.builtin "object.__getattribute__") = true then _ else _) _ _ _
  rw [z2, Bool.and_false, if_neg Bool.false_ne_true]
  unfold getAttrByItsOwn hookBefore
  refine wpAny_bind ?_
  rw [if_pos (show onTheHeap (Value.ref D) = true from rfl)]
  refine lk.at (wpAny_bind (wpAny_attempt (wpAny_holding ?_)))
  unfold callGetattribute
  rw [show (false && onTheHeap (Value.builtin "BaseException.__getattribute__")) = false from rfl, if_neg Bool.false_ne_true]
  unfold boundAndCalled
  rw [PySem.F.excAttr_ValueError.ga.bind (.ref x)]
  refine wpAny_bind (wpAny_pure ?_)
  show wpAny _ _ (call (.builtin "BaseException.__getattribute__") [.ref x, .str "__class__" tk]) _ _ _
  refine wpAny_call (codeAny_call_builtin PySem.F.excAttr_ValueError.ga.plain PySem.F.entry_bexc_ga ?_)
  refine @check_slot (model prog w) _ _ ⟨hp, gn, dw, tk + 1, oz⟩ "BaseException.__getattribute__" "BaseException" "__getattribute__" (.ref x) [.str "__class__" tk] [] _ (by decide +kernel) (by decide +kernel) sb (PySem.F.args_bexc_ga (.ref x) (.str "__class__" tk)) ?_
  unfold Builtin.«object.__getattribute__»
  refine wpAny_bind (wpAny_of_eq (a := ((Value.ref x : Value), [Value.str "__class__" tk])) (by first | rfl | (simp only [slotArgs]; rfl)) ?_)
  refine wpAny_bind (wpAny_pure (wpAny_bind (ty.at (wpAny_bind (lf.at ?_)))))
  show wpAny _ _ (holding [Value.builtin "object.__class__"] (call (.builtin "getset_descriptor.__get__") [.builtin "object.__class__", .ref x, .ref D]) >>= ret) _ _ _
  refine wpAny_bind (wpAny_holding (wpAny_call (class_get (s := ⟨hp, gn, dw, tk + 1, oz⟩) (ox := oi) (od := od) KI I C.hm (wpAny_pure ?_))))
  show wpAny _ _ (handedOut (.ref D)) _ _ _
  rw [handedOut_of (v := .ref D) rfl]
  first
    | exact wpAny_pure (wpAny_pure q)
    | exact wpAny_pure q
    | exact wpAny_pure (wpAny_bind (wpAny_pure (wpAny_pure q)))
theorem mi_kitx (C : L2.ExcC K D) : KitX K (.ref x) (.ref D) (fun h => ∃ oi od, InstAt h x oi D od) where
  ty := fun _ _ _ ⟨_, _, I⟩ => I.type
  it := fun M h X _ => by
    obtain ⟨cd, hc, _⟩ := any_some C.hd
    unfold clsIn at hc
    split at hc
    · rename_i z1 z2 z3 z4 e0
      intro A1 Q1 E1 s1 k1 q1
      unfold isType loadHead
      exact wpAny_bind (wpAny_loadPart (k1 _ _ (X _ _ e0)) (wpAny_pure q1))
    · cases hc
  ne := fun h tp dd its n sl X htp => (handS_kitx_exc (x := x) (ox := default) C.hg C.hk C.hs C.hd C.ha C.hn C.ht C.hm).ne h tp dd its n sl X htp
  ca := fun X ⟨_, _, I⟩ k => mi_class C X I k
end
end PySem.W
namespace Mi
open PySem PySem.Spec PyProof.Rows L2
/-- the exception's dict, where it has one -/
def ExD (H : Hp) : Option Addr → Prop
  | none => True
  | some dd => ∃ gs, H dd = some (.xd gs)
theorem exo_inst {X : Cx} {pins : List (Addr × Obj)} {σ : L2.St} {H : Hp} {s : Shared} {a D : Addr} {d : Option Addr} (I : Inv X pins σ H s) (e : H a = some (EXO (.ref D) d a)) (ed : ExD H d) : ∃ oe od, PySem.W.InstAt s.heap a oe D od := by
  have q := I.hok a _ e
  obtain ⟨⟨oe, vs, g, z, hv⟩, _, _⟩ := q
  obtain ⟨oc, oz, oda, osl⟩ := oe
  obtain ⟨z1, z2⟩ := z
  dsimp only at z1 z2 hv
  subst z1 z2 hv
  cases oz with
  | none => exact ⟨_, none, g, rfl, rfl, trivial⟩
  | some dd =>
    obtain ⟨gs, ed⟩ := ed
    have hx : ObjOk X.prog X.w H s.heap dd (.xd gs) := I.hok dd _ ed
    obtain ⟨mA, hns, _⟩ := hx
    obtain ⟨od, ho, _⟩ := lookIn_ns hns
    exact ⟨_, some od, g, rfl, rfl, ho⟩
/-- what a value's class is, exceptions among them -/
inductive TyE (K : PySem.W.Frag) (H : Hp) : V → Value → Prop
  | ty {x : V} {t : Value} (h : TyX K H x t) : TyE K H x t
  | ex {a D : Addr} {d : Option Addr} (ea : H a = some (EXO (.ref D) d a)) (ed : ExD H d) (C : ExcC K D) : TyE K H (.ref a) (.ref D)
theorem tyE_kit {X : Cx} {pins : List (Addr × Obj)} {σ : L2.St} {H : Hp} {s : Shared} {x : V} {u t : Value} (I : Inv X pins σ H s) (r : RelV x u) (T : TyE X.K H x t) : ∃ P : Heap → Prop, PySem.W.KitX X.K u t P ∧ P s.heap ∧ u ≠ .builtin "__main__.__loader__#opaque" := by
  cases T with
  | ty h =>
    obtain ⟨P, Z, p, hx⟩ := kit_of I r h
    exact ⟨P, Z, p, hx⟩
  | @ex a D d ea ed C =>
    cases (show u = Value.ref a from r)
    exact ⟨_, PySem.W.mi_kitx C, exo_inst I ea ed, fun z => nomatch z⟩
/-- isinstance(x, c) -/
def rIsC (K : PySem.W.Frag) : List V → Hp → VK → Prop := fun xs H Q => ∃ (x c : V) (t cv : Value) (b : Bool), xs = [x, c] ∧ ClsV c cv ∧ TyE K H x t ∧ PySem.W.kitOne K t cv = some b ∧ Q (.bl b) H
theorem call_isC {X : Cx} : CallR X (.builtin "isinstance") (rIsC X.K) := fun pins s σ H xs us Q I r h => by
  obtain ⟨x, c, t, cv, b, rfl, k, ty, e, q⟩ := h
  obtain ⟨u1, u2, rfl, r1, r2⟩ := vals2 r
  obtain rfl := k.eq r2
  obtain ⟨P, Z, p, hx⟩ := tyE_kit I r1 ty
  exact PySem.W.kia_one Z I.kIn p e hx fun tk => ⟨.bl b, H, I.tok tk, rfl, q⟩
/-- e.f of an instance or of a caught exception -/
def tFldE (K : PySem.W.Frag) (ta : TE) (f : Str) : TE := fun σ H Q => ta σ H fun x H1 => (∃ a C dx fs v, x = .ref a ∧ H1 a = some (.ins C dx fs) ∧ Cls K C ∧ NoAttr K C f ∧ fs.lookup f = some v ∧ Q v H1) ∨
  ∃ (a D dd : Addr) (gs : List (Str × V)) (v : V), x = .ref a ∧ H1 a = some (EXO (.ref D) (some dd) a) ∧ H1 dd = some (.xd gs) ∧ XfC K D ∧ PySem.W.findIn K (.ref D) f = some none ∧ gs.lookup f = some v ∧ Q v H1
theorem pe_fldE {X : Cx} {e : Expr} {f : Str} {pos : Pos} {ta : TE} (he : PE X e ta) (hb : attributeBase e f X.env (eval e X.env) = eval e X.env) : PE X (.Attribute e f pos) (tFldE X.K ta f) := by
  refine ⟨fun pins s σ H Q I h => ?_⟩
  refine attr_of hb (thn (he.run pins s σ H _ I h) fun u s1 ⟨x, H1, I1, rx, h1⟩ => ?_)
  rcases h1 with ⟨a, C, dx, fs, v, ex, ea, c, n, l, q⟩ | ⟨a, D, dd, gs, v, ex, ea, ed, T, no, l, q⟩
  · subst ex
    obtain rfl : u = Value.ref a := rx
    exact getattr_ok I1 ea c n l fun u2 s2 I2 ru => ⟨v, H1, I2, ru, q⟩
  · subst ex
    obtain rfl : u = Value.ref a := rx
    obtain ⟨⟨oe, vs, g, z, hv⟩, _, _⟩ := I1.hok a _ ea
    have hx : ObjOk X.prog X.w H1 s1.heap dd (.xd gs) := I1.hok dd _ ed
    obtain ⟨mA, hns, hr⟩ := hx
    obtain ⟨od, ho, hl⟩ := lookIn_ns hns
    obtain ⟨y, hy, ry⟩ := RelO.some_of (v := v) (o := mA f) (by rw [← l]; exact hr f)
    have J : PySem.W.InstAt s1.heap a oe D (some od) := ⟨g, z.1, by unfold PySem.W.notCls; rw [hv] <;> rfl, by rw [z.2]; exact ho⟩
    exact HandSPX.exc_get I1.kIn J T.ga T.gg T.exC (PySem.W.findObj_own T.hdC no rfl (by rw [hl, hy])) (handed_of ry) ⟨v, H1, I1.tok _, ry, q⟩
end Mi
set_option Elab.async false
set_option linter.all false
set_option maxRecDepth 100000
namespace He
open PySem PySem.Spec PyProof.Rows SrtO
section
variable {P : Program} {w : World} {A : Around} {Er : Value → Shared → Prop} {z : Shared}
end
end He
namespace L2
open PySem PySem.Spec PyProof.Rows
end L2
set_option Elab.async false
set_option linter.all false
set_option maxRecDepth 100000
set_option maxHeartbeats 4000000
namespace L2
open PySem PySem.Spec PyProof.Rows
theorem tuple_mulW1 (l : Addr) (items : Array Value) (n : Nat) (dd : Option Addr) (sl : Array (Option Value)) (u : Tok) :
    Meets (Builtin.«tuple.__mul__» ⟨[.ref l, .int 1 u], []⟩) (fun _ R s => s.heap.get? l = some { cls := .type "tuple", dict := dd, data := .seq items n, slots := sl } ∧
      R (.ok (.ret (Value.ref l))) s) :=
  .of_wp fun prog w A R s h => by
    obtain ⟨hp, g, d, tk, os⟩ := s
    obtain ⟨hl, h⟩ := h
    have f1 := AutoSeq1.idx_int
    wp_walk using wpAny_loadPart' hl
    repeat (first
      | (refine wpAny_ite_false (decide_eq_false (by decide)) ?_; wp_walk using wpAny_loadPart' hl)
      | (refine wpAny_ite_true (by simp) ?_; wp_walk using wpAny_loadPart' hl))
    exact ⟨_, rfl, h⟩
section
variable {X : Cx}
def rRepT1 (K : PySem.W.Frag) : R2 := fun x y H Q => ∃ l xs, x = .ref l ∧ y = .int 1 ∧ SqT K H l xs ∧ Q (.ref l) H
theorem op_repT1 : OpR X (binaryOp .Mult) (rRepT1 X.K) := by
  intro pins s σ H x y v u Q I rx ry h
  obtain ⟨l, xs, rfl, rfl, hT, q⟩ := h
  cases rx
  obtain ⟨t, rfl⟩ := ry
  obtain ⟨its, r, ⟨⟨cls, dd, data, sl⟩, ho, hc, n, hd⟩, hs⟩ := I.tuple hT
  simp only at hc hd
  subst hc hd
  refine wpAny_binaryOp_repeat_ref (T := "tuple") (U := "int") (by decide) ⟨_, ho, rfl⟩ (fun s' => typeIs_int s' 1 t) noFill_tuple_mul F.fills_int_mul F.slot_int_rmul repeat_tuple F.slot_int_index.lookup
    (call_meets F.slot_int_rmul (typeIs_int s 1 t) F.entry_int_rmul (F.args_int_rmul_2 _ _) (int_rmul_tuple 1 t l its.toArray n dd sl)
      ⟨ho, rfl, ⟨_, ho, rfl⟩, call_meets F.slot_tuple_mul ⟨_, ho, rfl⟩ F.entry_tuple_mul (F.args_tuple_mul_2 _ _) (tuple_mulW1 l its.toArray n dd sl t) ⟨ho, ?_⟩⟩)
  exact ⟨.ref l, H, I, rfl, q⟩
end
end L2
set_option Elab.async false
set_option linter.all false
set_option maxRecDepth 100000
namespace Mi
open PySem L2
mutual
/-- the value is that key -/
inductive KeyIs (K : PySem.W.Frag) (H : Hp) : NestedKey → V → Prop
  | non : KeyIs K H .none .non
  | bl (b : Bool) : KeyIs K H (.num (if b = true then 1 else 0)) (.bl b)
  | int (i : Int) : KeyIs K H (.num i) (.int i)
  | str (z : Str) : KeyIs K H (.text z) (.str z)
  | tup {a : Addr} {vs : List V} {ks : List NestedKey} (h : SqT K H a vs) (r : KeyAll K H ks vs) : KeyIs K H (.tup ks) (.ref a)
inductive KeyAll (K : PySem.W.Frag) (H : Hp) : List NestedKey → List V → Prop
  | nil : KeyAll K H [] []
  | cons {k : NestedKey} {v : V} {ks : List NestedKey} {vs : List V} (a : KeyIs K H k v) (r : KeyAll K H ks vs) : KeyAll K H (k :: ks) (v :: vs)
end
section
variable {X : Cx} {pins : List (Addr × Obj)} {σ : L2.St} {H : Hp} {s : Shared}
mutual
theorem KeyIs.heap (I : Inv X pins σ H s) : ∀ {k : NestedKey} {v : V} {u : Value}, KeyIs X.K H k v → RelV v u → NestedIs s.heap k u
  | _, _, u, .non, r => by
    obtain rfl : u = .none := r
    exact .none
  | _, _, u, .bl b, r => by
    obtain rfl : u = .bool b := r
    exact .bool rfl
  | _, _, u, .int i, r => by
    obtain ⟨t, rfl⟩ : ∃ t, u = .int i t := r
    exact .int i t
  | _, _, u, .str z, r => by
    obtain ⟨t, rfl⟩ : ∃ t, u = .str z t := r
    exact .text z t
  | _, _, u, .tup (a := a) hs q, r => by
    obtain rfl : u = .ref a := r
    obtain ⟨its, rv, p, hz⟩ := I.tuple hs
    obtain ⟨o, h1, h2, n, h3⟩ := p
    exact .tup h1 h2 h3 (by simpa using KeyAll.heap I q rv)
theorem KeyAll.heap (I : Inv X pins σ H s) : ∀ {ks : List NestedKey} {vs : List V} {us : List Value}, KeyAll X.K H ks vs → Vals vs us → NestedAll s.heap ks us
  | _, _, _, .nil, .nil => .nil
  | _, _, _, .cons a r, .cons b t => .cons (KeyIs.heap I a b) (KeyAll.heap I r t)
end
end
/-- the dict at a -/
def DitO (nh : NestedKey → Int) (a : Addr) (xs : List (NestedKey × Addr × V)) : HO := .ext fun h =>
  xs.length ≤ sizeLine ∧ (a == sysModules) = false ∧ ∃ us : List (NestedKey × Addr × Value), Paired (fun (p : NestedKey × Addr × V) (q : NestedKey × Addr × Value) => p.1 = q.1 ∧ p.2.1 = q.2.1 ∧ RelV p.2.2 q.2.2) xs us ∧
    ∃ o es ep, h.get? a = some o ∧ o.ExactDict ∧ o.data = .dict es ep ∧ es.toList = us.map (fun x => (⟨nh x.1, .ref x.2.1, x.2.2⟩ : DictEntry)) ∧ (us.map (·.1)).Nodup
abbrev PrT : List (NestedKey × Addr × V) → List (NestedKey × Addr × Value) → Prop := Paired (fun (p : NestedKey × Addr × V) (q : NestedKey × Addr × Value) => p.1 = q.1 ∧ p.2.1 = q.2.1 ∧ RelV p.2.2 q.2.2)
def atT (xs : List (NestedKey × Addr × V)) (k : NestedKey) : Option V := (xs.find? fun x => decide (x.1 = k)).map (·.2.2)
def stT (xs : List (NestedKey × Addr × V)) (k : NestedKey) (b : Addr) (v : V) : List (NestedKey × Addr × V) :=
  if (atT xs k).isSome then xs.map (fun x => if x.1 = k then (x.1, x.2.1, v) else x) else xs ++ [(k, b, v)]
theorem prT_at (k : NestedKey) : ∀ {xs : List (NestedKey × Addr × V)} {us : List (NestedKey × Addr × Value)}, PrT xs us → RelO (atT xs k) ((atKey us k).map (·.2))
  | _, _, .nil => trivial
  | p :: xs, q :: us, .cons h t => by
    obtain ⟨h1, h2, h3⟩ := h
    have ih := prT_at k t
    unfold atT atKey at ih ⊢
    by_cases e : p.1 = k
    · rw [List.find?_cons_of_pos (by simpa using e), List.find?_cons_of_pos (by rw [h1] at e; simpa using e)]
      exact h3
    · rw [List.find?_cons_of_neg (by simpa using e), List.find?_cons_of_neg (by rw [h1] at e; simpa using e)]
      exact ih
theorem prT_map (k : NestedKey) {v : V} {r : Value} (hv : RelV v r) : ∀ {xs : List (NestedKey × Addr × V)} {us : List (NestedKey × Addr × Value)}, PrT xs us → PrT (xs.map (fun x => if x.1 = k then (x.1, x.2.1, v) else x)) (us.map (putAt k r))
  | _, _, .nil => .nil
  | p :: xs, q :: us, .cons h t => by
    obtain ⟨h1, h2, h3⟩ := h
    refine .cons ?_ (prT_map k hv t)
    unfold putAt
    show (if p.1 = k then (p.1, p.2.1, v) else p).1 = _ ∧ (if p.1 = k then (p.1, p.2.1, v) else p).2.1 = _ ∧ RelV (if p.1 = k then (p.1, p.2.1, v) else p).2.2 _
    by_cases e : p.1 = k
    · rw [if_pos e, if_pos (by rw [← h1]; exact e)]
      exact ⟨h1, h2, hv⟩
    · rw [if_neg e, if_neg (by rw [← h1]; exact e)]
      exact ⟨h1, h2, h3⟩
theorem prT_snoc {k : NestedKey} {b : Addr} {v : V} {r : Value} (hv : RelV v r) : ∀ {xs : List (NestedKey × Addr × V)} {us : List (NestedKey × Addr × Value)}, PrT xs us → PrT (xs ++ [(k, b, v)]) (us ++ [(k, b, r)])
  | _, _, .nil => .cons ⟨rfl, rfl, hv⟩ .nil
  | _, _, .cons h t => .cons h (prT_snoc hv t)
theorem prT_st {k : NestedKey} {b : Addr} {v : V} {r : Value} (hv : RelV v r) {xs : List (NestedKey × Addr × V)} {us : List (NestedKey × Addr × Value)} (t : PrT xs us) : PrT (stT xs k b v) (storedH us k b r) := by
  have e : (atT xs k).isSome = (atKey us k).isSome := by
    have := (prT_at k t).isSome_eq
    rw [Option.isSome_map] at this
    exact this
  unfold stT storedH
  rw [e]
  split
  · exact prT_map k hv t
  · exact prT_snoc hv t
theorem prT_len : ∀ {xs : List (NestedKey × Addr × V)} {us : List (NestedKey × Addr × Value)}, PrT xs us → xs.length = us.length
  | _, _, .nil => rfl
  | _, _, .cons _ t => by rw [List.length_cons, List.length_cons, prT_len t]
theorem stT_len (xs : List (NestedKey × Addr × V)) (k : NestedKey) (b : Addr) (v : V) : (stT xs k b v).length ≤ xs.length + 1 := by
  unfold stT
  split
  · rw [List.length_map]; omega
  · rw [List.length_append]; simp
/-- the dict at a holds xs; its keys are known -/
def TD (X : Cx) (nh : NestedKey → Int) (H : Hp) (a : Addr) (xs : List (NestedKey × Addr × V)) : Prop :=
  (H a = some (DitO nh a xs) ∨ (xs = [] ∧ H a = some (.dK []))) ∧ ∀ x ∈ xs, KeyIs X.K H x.1 (.ref x.2.1) ∧ x.1.depth ≤ 8
section
variable {X : Cx} {pins : List (Addr × Obj)} {σ : L2.St} {H : Hp} {s : Shared} {nh : NestedKey → Int} {a b : Addr} {xs : List (NestedKey × Addr × V)} {k : NestedKey} {A : Around} {E : Value → Shared → Prop} {v : V} {r : Value}
theorem TD.heap (I : Inv X pins σ H s) (hn : nh = NestedKey.hash X.w) (t : TD X nh H a xs) : xs.length ≤ sizeLine ∧ (a == sysModules) = false ∧ ∃ us, PrT xs us ∧ s.heap.DictOfH (nestedKind X.prog X.w) a us := by
  obtain ⟨t, ks⟩ := t
  rcases t with t | ⟨rfl, t⟩
  · obtain ⟨⟨z, y, us, pr, o, es, ep, h1, h2, h3, h4, h5⟩, _⟩ := I.hok a _ t
    refine ⟨z, y, us, pr, o, es, ep, h1, h2, h3, ?_, ?_, h5⟩
    · rw [h4, hn]
      rfl
    · have all : ∀ {l : List (NestedKey × Addr × V)} {m : List (NestedKey × Addr × Value)}, PrT l m → (∀ x ∈ l, KeyIs X.K H x.1 (.ref x.2.1) ∧ x.1.depth ≤ 8) → ∀ x ∈ m, (nestedKind X.prog X.w).is s.heap x.1 x.2.1 := by
        intro l m q
        induction q with
        | nil => intro _ x hx; exact nomatch hx
        | @cons p q ps qs hq t ih =>
          intro hk x hx
          rcases List.mem_cons.mp hx with e | hx
          · subst e
            obtain ⟨k1, k2⟩ := hk p (List.mem_cons_self ..)
            rw [← hq.1, ← hq.2.1]
            exact ⟨k1.heap I rfl, k2⟩
          · exact ih (fun y hy => hk y (List.mem_cons_of_mem _ hy)) x hx
      exact all pr ks
  · obtain ⟨z, y, vs, rel, dd⟩ := dk_of I.hok t
    have e : vs = [] := by
      have := rel.length
      simpa using this.symm
    subst e
    obtain ⟨o, es, ep, h1, h2, h3, _, h4, h5⟩ := dd
    refine ⟨Nat.zero_le _, y, [], .nil, o, es, ep, h1, h2, h3, ?_, fun x hx => (nomatch hx), List.nodup_nil⟩
    have e := h4.length
    exact List.eq_nil_of_length_eq_zero e
theorem room8 (hu : A.units + 9 < cLine) : (nestedKind X.prog X.w).room A.in1 := by
  show A.units + 1 + 8 < cLine
  omega
theorem t_in {Q : Value → Shared → Prop} (hu : A.units + 9 < cLine) (hn : nh = NestedKey.hash X.w) (I : Inv X pins σ H s) (t : TD X nh H a xs) (hk : KeyIs X.K H k (.ref b)) (hd : k.depth ≤ 8) (h : ∀ s', Inv X pins σ H s' → Q (.bool (atT xs k).isSome) s') :
    wpAny (model X.prog X.w) A (compareOp .In (.ref b) (.ref a)) Q E s := by
  obtain ⟨z, y, us, pr, dd⟩ := t.heap I hn
  refine wpAny_in_heap (room8 hu) ⟨hk.heap I rfl, hd⟩ y dd ?_
  have q := (prT_at k pr).isSome_eq
  rw [Option.isSome_map] at q
  rw [← q]
  exact h _ (I.tok _)
theorem t_notIn {Q : Value → Shared → Prop} (hu : A.units + 9 < cLine) (hn : nh = NestedKey.hash X.w) (I : Inv X pins σ H s) (t : TD X nh H a xs) (hk : KeyIs X.K H k (.ref b)) (hd : k.depth ≤ 8) (h : ∀ s', Inv X pins σ H s' → Q (.bool (!(atT xs k).isSome)) s') :
    wpAny (model X.prog X.w) A (compareOp .NotIn (.ref b) (.ref a)) Q E s := by
  obtain ⟨z, y, us, pr, dd⟩ := t.heap I hn
  refine notIn_keyed (room8 hu) ⟨hk.heap I rfl, hd⟩ y ⟨us, dd, rfl⟩ ?_
  have q := (prT_at k pr).isSome_eq
  rw [Option.isSome_map] at q
  rw [valueAt_pairsH, Option.isSome_map, ← q]
  exact h _ (I.tok _)
theorem t_getItem {Q : Value → Shared → Prop} (hu : A.units + 9 < cLine) (hn : nh = NestedKey.hash X.w) (I : Inv X pins σ H s) (t : TD X nh H a xs) (hk : KeyIs X.K H k (.ref b)) (hd : k.depth ≤ 8) (hv : atT xs k = some v) (h : ∀ w' s', Inv X pins σ H s' → RelV v w' → Q w' s') :
    wpAny (model X.prog X.w) A (getItem (.ref a) (.ref b)) Q E s := by
  obtain ⟨z, y, us, pr, dd⟩ := t.heap I hn
  obtain ⟨w', hw, rw'⟩ := RelO.some_of (v := v) (o := (atKey us k).map (·.2)) (by rw [← hv]; exact prT_at k pr)
  obtain ⟨p, hp, hp2⟩ := Option.map_eq_some_iff.mp hw
  refine wpAny_getItem_heap (room8 hu) ⟨hk.heap I rfl, hd⟩ dd hp ?_
  rw [hp2]
  exact h w' _ (I.tok _) rw'
theorem t_setItem {Q : Unit → Shared → Prop} (hu : A.units + 9 < cLine) (hn : nh = NestedKey.hash X.w) (I : Inv X pins σ H s) (t : TD X nh H a xs) (hk : KeyIs X.K H k (.ref b)) (hd : k.depth ≤ 8) (hz : xs.length < sizeLine) (rv : RelV v r)
    (h : ∀ s', Inv X pins σ (upd H a (DitO nh a (stT xs k b v))) s' → Q () s') :
    wpAny (model X.prog X.w) A (setItem (.ref a) (.ref b) r) Q E s := by
  obtain ⟨z, y, us, pr, dd⟩ := t.heap I hn
  have mu : Mut (H a) := by
    rcases t.1 with q | ⟨_, q⟩ <;> rw [q] <;> exact True.intro
  have hz' : us.length ≤ sizeLine := by rw [← prT_len pr]; exact z
  refine wpAny_setItem_heap (hsz := hz') (room8 hu) ⟨hk.heap I rfl, hd⟩ dd fun h' dd' hs => h _ ?_
  obtain ⟨q, es, ep, hq, h2, h3, h4, _, h5⟩ := dd'
  have hl : (stT xs k b v).length ≤ sizeLine := by have := stT_len xs k b v; omega
  refine d_write I mu hs ⟨q, hq⟩ ⟨⟨hl, y, _, prT_st rv pr, q, es, ep, hq, h2, h3, ?_, h5⟩, ⟨q, hq⟩, fun h1 h2 p k => ?_⟩
  · rw [h4, hn]
    rfl
  · obtain ⟨z, y, us, pr, o, es, ep, e1, e2⟩ := p
    exact ⟨z, y, us, pr, o, es, ep, k _ e1, e2⟩
theorem t_typeIs (I : Inv X pins σ H s) (hn : nh = NestedKey.hash X.w) (t : TD X nh H a xs) : s.TypeIs (.ref a) "dict" := by
  obtain ⟨z, y, us, pr, dd⟩ := t.heap I hn
  exact dd.typeIs
end
end Mi
set_option linter.all false
namespace Mi
inductive PV where
  | non | bl (b : Bool) | int (i : Int) | str (s : List Char) | tup (xs : List PV) | ref (n : Nat)
deriving Inhabited
mutual
def PV.beq : PV → PV → Bool
  | .non, .non => true
  | .bl a, .bl b => a == b
  | .int a, .int b => a == b
  | .str a, .str b => a == b
  | .tup a, .tup b => PV.beqs a b
  | .ref a, .ref b => a == b
  | _, _ => false
def PV.beqs : List PV → List PV → Bool
  | [], [] => true
  | a :: r, b :: t => PV.beq a b && PV.beqs r t
  | _, _ => false
end
mutual
theorem PV.of_beq : ∀ {a b : PV}, PV.beq a b = true → a = b
  | .non, b, h => by cases b <;> simp_all [PV.beq]
  | .bl x, b, h => by cases b <;> simp_all [PV.beq]
  | .int x, b, h => by cases b <;> simp_all [PV.beq]
  | .str x, b, h => by cases b <;> simp_all [PV.beq]
  | .ref x, b, h => by cases b <;> simp_all [PV.beq]
  | .tup x, b, h => by
    cases b with
    | tup y => rw [PV.beq] at h; rw [PV.of_beqs h]
    | _ => simp_all [PV.beq]
theorem PV.of_beqs : ∀ {a b : List PV}, PV.beqs a b = true → a = b
  | [], [], _ => rfl
  | [], _ :: _, h => by simp [PV.beqs] at h
  | _ :: _, [], h => by simp [PV.beqs] at h
  | x :: r, y :: t, h => by
    rw [PV.beqs, Bool.and_eq_true] at h
    rw [PV.of_beq h.1, PV.of_beqs h.2]
end
mutual
theorem PV.beq_rfl : ∀ a : PV, PV.beq a a = true
  | .non => by simp [PV.beq]
  | .bl x => by simp [PV.beq]
  | .int x => by simp [PV.beq]
  | .str x => by simp [PV.beq]
  | .ref x => by simp [PV.beq]
  | .tup x => by rw [PV.beq]; exact PV.beqs_rfl x
theorem PV.beqs_rfl : ∀ a : List PV, PV.beqs a a = true
  | [] => by simp [PV.beqs]
  | x :: r => by rw [PV.beqs, PV.beq_rfl x, PV.beqs_rfl r]; rfl
end
instance : DecidableEq PV := fun a b => if h : PV.beq a b = true then isTrue (PV.of_beq h) else isFalse fun e => h (by rw [e]; exact PV.beq_rfl b)
/-- objects: a list, a list that is only read, a dict, a dict whose keys are tuples, an instance of a class, an exception that was caught -/
inductive PO where
  | lst (xs : List PV)
  | frz (xs : List PV)
  | dic (kvs : List (PV × PV))
  | dit (kvs : List (PV × PV))
  | ldc (kvs : List (PV × PV))
  | ldt (kvs : List (PV × PV))
  | ins (c : String) (fs : List (String × PV))
  | exn (c : String) (fs : List (String × PV))
  | lam
deriving DecidableEq, Inhabited
abbrev PH := List PO
abbrev Env := List (Option PV)
structure PX where
  cls : String
  fs : List (String × PV)
deriving DecidableEq, Inhabited
inductive R (α : Type) where
  | ok (a : α) (h : PH) | exc (x : PX) (h : PH) | bad
deriving DecidableEq, Inhabited
def R.bind {α β : Type} : R α → (α → PH → R β) → R β
  | .ok a h, f => f a h
  | .exc x h, _ => .exc x h
  | .bad, _ => .bad
@[simp] theorem bind_ok {α β : Type} (a : α) (h : PH) (f : α → PH → R β) : (R.ok a h).bind f = f a h := rfl
@[simp] theorem bind_exc {α β : Type} (x : PX) (h : PH) (f : α → PH → R β) : (R.exc x h : R α).bind f = .exc x h := rfl
@[simp] theorem bind_bad {α β : Type} (f : α → PH → R β) : (R.bad : R α).bind f = .bad := rfl
inductive D where
  | non | bl (b : Bool) | int (i : Int) | str (s : List Char) | lst (xs : List D) | tup (xs : List D)
deriving Inhabited
mutual
def D.eqv : D → D → Bool
  | .non, .non => true
  | .bl a, .bl b => a == b
  | .bl a, .int j => (if a then 1 else 0) == j
  | .int i, .bl b => i == (if b then 1 else 0)
  | .int a, .int b => a == b
  | .str a, .str b => a == b
  | .lst a, .lst b => D.eqvs a b
  | .tup a, .tup b => D.eqvs a b
  | _, _ => false
def D.eqvs : List D → List D → Bool
  | [], [] => true
  | a :: r, b :: t => D.eqv a b && D.eqvs r t
  | _, _ => false
end
def mapO {α β : Type} (f : α → Option β) : List α → Option (List β)
  | [] => some []
  | x :: r => match f x with
    | some y => match mapO f r with
      | some ys => some (y :: ys)
      | none => none
    | none => none
/-- all through, by a bound for the depth -/
def den (h : PH) : Nat → PV → Option D
  | 0, v => match v with
    | .non => some .non
    | .bl b => some (.bl b)
    | .int i => some (.int i)
    | .str s => some (.str s)
    | _ => none
  | n + 1, v => match v with
    | .non => some .non
    | .bl b => some (.bl b)
    | .int i => some (.int i)
    | .str s => some (.str s)
    | .tup xs => (mapO (den h n) xs).map .tup
    | .ref a => match h[a]? with
      | some (.lst xs) => (mapO (den h n) xs).map .lst
      | some (.frz xs) => (mapO (den h n) xs).map .lst
      | _ => none
def joinC : List (List Char) → List Char
  | [] => []
  | [x] => x
  | x :: y :: r => x ++ ',' :: ' ' :: joinC (y :: r)
/-- shown as it is -/
def plainC (c : Char) : Bool := decide (32 ≤ c.toNat ∧ c.toNat < 127) && decide (c.toNat ≠ 39) && decide (c.toNat ≠ 92)
def shw0 : PV → Option (List Char)
  | .non => some ['N', 'o', 'n', 'e']
  | .bl b => some (if b then ['T', 'r', 'u', 'e'] else ['F', 'a', 'l', 's', 'e'])
  | .int i => if i.natAbs.log2 < 1920 then some (toString i).toList else none
  | .str s => if s.all plainC then some ('\'' :: (s ++ ['\''])) else none
  | _ => none
def tupC (ts : List (List Char)) : List Char := '(' :: (joinC ts ++ (if ts.length = 1 then [',', ')'] else [')']))
def lstC (ts : List (List Char)) : List Char := '[' :: (joinC ts ++ [']'])
def shw (h : PH) : Nat → PV → Option (List Char)
  | 0, v => shw0 v
  | n + 1, v => match v with
    | .tup xs => (mapO (shw h n) xs).map tupC
    | .ref a => match h[a]? with
      | some (.lst xs) => (mapO (shw h n) xs).map lstC
      | some (.frz xs) => (mapO (shw h n) xs).map lstC
      | some (.dic []) => some ['{', '}']
      | _ => none
    | _ => shw0 v
def szl : Nat := 16777216
inductive BOp where
  | add | sub | mul | fdiv | mod | pow | band | bor | bxor
deriving DecidableEq
inductive COp where
  | eq | ne | lt | le | gt | ge | isin | notin | is | isnot
deriving DecidableEq
def mulOk (i j : Int) : Bool := decide (i.natAbs.log2 + j.natAbs.log2 < 1000000)
/-- a + b .. on ints, texts, tuples, lists; anything else is not known here -/
def bopV (o : BOp) (x y : PV) (h : PH) : R PV := match x, y with
  | .int i, .int j => match o with
    | .add => .ok (.int (i + j)) h
    | .sub => .ok (.int (i - j)) h
    | .mul => if mulOk i j then .ok (.int (i * j)) h else .bad
    | .fdiv => if 0 < j ∧ j.natAbs.log2 < 9000 then .ok (.int (i / j)) h else .bad
    | .mod => if 0 < j then .ok (.int (i % j)) h else .bad
    | .pow => if 0 ≤ j ∧ (i.natAbs.log2 + 1) * j.toNat ≤ 134217728 then .ok (.int (i ^ j.toNat)) h else .bad
    | _ => .bad
  | .str a, .str b => match o with
    | .add => if a.length + b.length ≤ szl then .ok (.str (a ++ b)) h else .bad
    | _ => .bad
  | .str a, .int k => match o with
    | .mul => if -16777216 ≤ k ∧ k ≤ 16777216 ∧ a.length * k.toNat ≤ szl then .ok (.str (List.replicate k.toNat a).flatten) h else .bad
    | _ => .bad
  | .tup a, .tup b => match o with
    | .add => if a.length + b.length ≤ szl then .ok (.tup (a ++ b)) h else .bad
    | _ => .bad
  | .tup a, .int k => match o with
    | .mul => if k = 1 then .ok (.tup a) h else if a ≠ [] ∧ 2 ≤ k ∧ k ≤ 1000 ∧ a.length ≤ 1000 then .ok (.tup (List.replicate k.toNat a).flatten) h else .bad
    | _ => .bad
  | .ref a, .ref b => match o, h[a]?, h[b]? with
    | .add, some (.lst xs), some (.lst ys) => if xs.length + ys.length ≤ szl then .ok (.ref h.length) (h ++ [.lst (xs ++ ys)]) else .bad
    | _, _, _ => .bad
  | .ref a, .int k => match o, h[a]? with
    | .mul, some (.lst xs) => if -16777216 ≤ k ∧ k ≤ 16777216 ∧ xs.length * k.toNat ≤ szl then .ok (.ref h.length) (h ++ [.lst (List.replicate k.toNat xs).flatten]) else .bad
    | _, _ => .bad
  | _, _ => .bad
/-- truth -/
def tru (v : PV) (h : PH) : Option Bool := match v with
  | .non => some false
  | .bl b => some b
  | .int i => some (i != 0)
  | .str s => if s.length ≤ szl then some (s.length != 0) else none
  | .tup xs => some (!xs.isEmpty)
  | .ref n => match h[n]? with
    | some (.lst xs) => some (!xs.isEmpty)
    | some (.frz xs) => some (!xs.isEmpty)
    | some (.dic kvs) => some (!kvs.isEmpty)
    | _ => none
def truR (v : PV) (h : PH) : R Bool := match tru v h with
  | some b => .ok b h
  | none => .bad
/-- a tuple, a list, a dict and a text: never equal -/
def dicStr (x y : PV) (h : PH) : Bool := match x, y with
  | .ref n, .str _ => match h[n]? with
    | some (.dic _) => true
    | some (.lst _) => true
    | some (.frz _) => true
    | _ => false
  | .tup _, .str _ => true
  | _, _ => false
/-- a tuple or list, and is it empty -/
def emp (v : PV) (h : PH) : Option (Bool × Bool) := match v with
  | .tup xs => some (true, xs.isEmpty)
  | .ref n => match h[n]? with
    | some (.lst xs) => some (false, xs.isEmpty)
    | some (.frz xs) => some (false, xs.isEmpty)
    | _ => none
  | _ => none
/-- two of one kind, one of them empty -/
def empEq (x y : PV) (h : PH) : Option Bool := match emp x h, emp y h with
  | some (a, p), some (b, q) => if a = b ∧ (p = true ∨ q = true) then some (p && q) else none
  | _, _ => none
def eqV (x y : PV) (h : PH) : Option Bool := if dicStr x y h then some false else match empEq x y h with
  | some b => some b
  | none => match den h 60 x, den h 60 y with
    | some a, some b => some (D.eqv a b)
    | _, _ => none
/-- is x one of ys -/
def anyEq (x : D) : List D → Bool
  | [] => false
  | y :: r => D.eqv y x || anyEq x r
/-- the keys of a dict: python's == of hashable data without bools -/
def lookK (k : PV) : List (PV × PV) → Option PV
  | [] => none
  | (a, v) :: r => if a = k then some v else lookK k r
def putK (k v : PV) (kvs : List (PV × PV)) : List (PV × PV) :=
  if (kvs.any fun kv => decide (kv.1 = k)) = true then kvs.map (fun kv => if kv.1 = k then (kv.1, v) else kv) else kvs ++ [(k, v)]
/-- what may be a key here: an int, a text, a tuple of such -/
def keyOk : PV → Bool
  | .int _ | .str _ => true
  | _ => false
/-- parts of a key that is a tuple: ints, texts, bools, None, tuples of such -/
def tkIn : Nat → PV → Bool
  | _, .non | _, .bl _ | _, .int _ | _, .str _ => true
  | n + 1, .tup xs => xs.all (tkIn n)
  | _, _ => false
/-- True is 1 -/
def kcn : Nat → PV → PV
  | _, .bl b => .int (if b then 1 else 0)
  | n + 1, .tup xs => .tup (xs.map (kcn n))
  | _, v => v
def tkOk (k : PV) : Bool := match k with
  | .tup _ => tkIn 8 k
  | _ => false
/-- where python's == and that of values agree -/
def tkFit (k : PV) (kvs : List (PV × PV)) : Bool := kvs.all fun p => !decide (kcn 8 p.1 = kcn 8 k) || decide (p.1 = k)
def tkAt (k : PV) (kvs : List (PV × PV)) : Bool := tkOk k && tkFit k kvs
def inV (x y : PV) (h : PH) : Option Bool := match y with
  | .str t => match x with
    | .str [c] => some (decide (c ∈ t))
    | _ => none
  | .tup ys => match den h 50 x, mapO (den h 50) ys with
    | some a, some bs => some (anyEq a bs)
    | _, _ => none
  | .ref n => match h[n]? with
    | some (.lst ys) => match den h 50 x, mapO (den h 50) ys with
      | some a, some bs => some (anyEq a bs)
      | _, _ => none
    | some (.frz ys) => match den h 50 x, mapO (den h 50) ys with
      | some a, some bs => some (anyEq a bs)
      | _, _ => none
    | some (.dic kvs) => if keyOk x then some (lookK x kvs).isSome else if tkOk x && kvs.isEmpty then some false else none
    | some (.dit kvs) => if tkAt x kvs then some (lookK x kvs).isSome else none
    | _ => none
  | _ => none
def bR (o : Option Bool) (h : PH) : R PV := match o with
  | some b => .ok (.bl b) h
  | none => .bad
def nbR (o : Option Bool) (h : PH) : R PV := match o with
  | some b => .ok (.bl (!b)) h
  | none => .bad
def intsOf : List PV → Option (List Int)
  | [] => some []
  | .int i :: r => (intsOf r).map fun l => i :: l
  | _ => none
/-- the order of tuples of ints -/
def lexI : List Int → List Int → Bool
  | [], [] => false
  | [], _ :: _ => true
  | _ :: _, [] => false
  | x :: r, y :: t => if x = y then lexI r t else decide (x < y)
def cmpV (o : COp) (x y : PV) (h : PH) : R PV := match o with
  | .eq => bR (eqV x y h) h
  | .ne => nbR (eqV x y h) h
  | .isin => bR (inV x y h) h
  | .notin => nbR (inV x y h) h
  | .is => match y with
    | .non => .ok (.bl (decide (x = .non))) h
    | _ => .bad
  | .isnot => match y with
    | .non => .ok (.bl (!decide (x = .non))) h
    | _ => .bad
  | .lt => match x, y with
    | .int i, .int j => .ok (.bl (decide (i < j))) h
    | .tup xs, .tup ys => match intsOf xs, intsOf ys with
      | some a, some b => .ok (.bl (lexI a b)) h
      | _, _ => .bad
    | _, _ => .bad
  | .le => match x, y with
    | .int i, .int j => .ok (.bl (decide (i ≤ j))) h
    | _, _ => .bad
  | .gt => match x, y with
    | .int i, .int j => .ok (.bl (decide (j < i))) h
    | _, _ => .bad
  | .ge => match x, y with
    | .int i, .int j => .ok (.bl (decide (j ≤ i))) h
    | _, _ => .bad
def ixN (n : Nat) (i : Int) : Option Nat := if 0 ≤ i then (if i < n then some i.toNat else none) else (if -(n : Int) ≤ i then some (i + n).toNat else none)
def atI {α : Type} (xs : List α) (i : Int) : Option α := (ixN xs.length i).bind fun j => xs[j]?
/-- a slice's end -/
def sIx (n d : Nat) : Option Int → Nat
  | none => d
  | some i => if i < 0 then (i + n).toNat else min i.toNat n
def cutL {α : Type} (xs : List α) (lo hi : Option Int) : List α := (xs.drop (sIx xs.length 0 lo)).take (sIx xs.length xs.length hi - sIx xs.length 0 lo)
def oneR {α : Type} (o : Option α) (h : PH) : R α := match o with
  | some v => .ok v h
  | none => .bad
def idxV (x y : PV) (h : PH) : R PV := match x with
  | .tup xs => match y with
    | .int i => oneR (atI xs i) h
    | _ => .bad
  | .str s => match y with
    | .int i => if s.length ≤ szl then oneR ((atI s i).map fun c => .str [c]) h else .bad
    | _ => .bad
  | .ref n => match h[n]? with
    | some (.lst xs) => match y with
      | .int i => oneR (atI xs i) h
      | _ => .bad
    | some (.frz xs) => match y with
      | .int i => oneR (atI xs i) h
      | _ => .bad
    | some (.dic kvs) => if keyOk y then oneR (lookK y kvs) h else .bad
    | some (.dit kvs) => if tkAt y kvs then oneR (lookK y kvs) h else .bad
    | _ => .bad
  | _ => .bad
def slcV (x : PV) (lo hi : Option Int) (h : PH) : R PV := match x with
  | .tup xs => .ok (.tup (cutL xs lo hi)) h
  | .str s => if s.length ≤ szl then .ok (.str (cutL s lo hi)) h else .bad
  | .ref n => match h[n]? with
    | some (.lst xs) => .ok (.ref h.length) (h ++ [.lst (cutL xs lo hi)])
    | some (.frz xs) => .ok (.ref h.length) (h ++ [.lst (cutL xs lo hi)])
    | _ => .bad
  | _ => .bad
end Mi
set_option linter.all false
namespace Mi
inductive T where
  | nm (i : Nat) | tup (ts : List T)
inductive IK where
  | val | rng | rng2 | enum | enums | enumv | zip | zipv | zip3 | items | values | keys
deriving DecidableEq
inductive E where
  | v (i : Nat)
  | k (c : PV)
  | bop (o : BOp) (a b : E)
  | neg (a : E) | nt (a : E)
  | and (a b : E) | or (a b : E)
  | cmp (o : COp) (a b : E)
  | chain (o o' : COp) (a b c : E)
  | ite (c a b : E)
  | call (f : String) (as : List E)
  | new (c : String) (as : List E)
  | blt (f : String) (as : List E)
  | isi (a : E) (ts : List String)
  | mth (m : String) (o : E) (as : List E)
  | mto (m : String) (cs : List String) (o : E) (as : List E)
  | fld (o : E) (f : String)
  | prop (f : String) (cs : List String) (o : E)
  | idx (a b : E) | slc (a : E) (lo hi : Option E)
  | tup (es : List E) | lst (es : List E) | dct (ks vs : List E)
  | lc (elt : E) (t : T) (ik : IK) (its : List E) (cs : List E) (own : List Nat)
  | dsp (es : List E)
  | dsp1 (a b : E)
  | lck (a : E)
  | dc (ke ve : E) (t : T) (ik : IK) (its : List E) (cs : List E) (own : List Nat)
  | tups (es : List E) (e : E)
  | callk (f : String) (ix : List Nat) (as : List E)
  | gin (neg : Bool) (kvs : List (PV × PV)) (a : E)
  | gget (kvs : List (PV × PV)) (a : E)
  | rev (a : E)
  | mkx (c : String) (as : List E)
  | mkxi (c f : String) (e : E)
  | lam (f : String) (b : E)
  | wk (e : E)
  | ln (ks : List String) (e : E)
  | inn (neg : Bool) (ks : List String) (a b : E)
  | oeq (neg : Bool) (ks : List String) (a b : E)
  | obn (o : BOp) (ks : List String) (a b : E)
  | oiv (ks : List String) (a : E)
  | dspT (es : List E)
  | oin (neg : Bool) (ks : List String) (a b : E)
  | teq (neg : Bool) (ks : List String) (a b : E)
  | oidx (ks : List String) (o a : E)
  | lc2 (elt : E) (t : T) (ik : IK) (its : List E) (cs : List E) (own : List Nat) (t2 : T) (ik2 : IK) (its2 : List E) (cs2 : List E) (own2 : List Nat)
  | sc2 (elt : E) (t : T) (ik : IK) (its : List E) (cs : List E) (own : List Nat) (t2 : T) (ik2 : IK) (its2 : List E) (cs2 : List E) (own2 : List Nat)
inductive S where
  | asg (t : T) (e : E)
  | par (is : List Nat) (es : List E)
  | seti (o i e : E) | setf (o : E) (f : String) (e : E)
  | aug (i : Nat) (neg : Bool) (e : E) | augf (o : E) (f : String) (neg : Bool) (e : E)
  | ex (e : E) | ret (e : E)
  | ite (c : E) (a b : List S)
  | for_ (t : T) (ik : IK) (its : List E) (body : List S)
  | while_ (c : E) (body : List S)
  | pass | brk | cnt
  | raise (c : String) (as : List E)
  | raiseI (c f : String) (e : E)
  | try_ (body : List S) (ks : List String) (suite : List S)
  | tryA (body : List S) (ks : List String) (i : Nat) (suite : List S)
inductive Fl where
  | nx (ρ : Env) | rt (v : PV) | bk (ρ : Env) | ct (ρ : Env) | xc (x : PX) (ρ : Env)
/-- the text's own defs: functions; methods by their class -/
inductive FN where
  | f (x : String) | m (c x : String)
  | l (x : String) (k : PH → R PV) | w
/-- a call of the text's own def, by its name -/
abbrev Cl := FN → List PV → PH → R PV
mutual
def bindT (h : PH) : T → PV → Env → Option Env
  | .nm i, v, ρ => some (ρ.set i (some v))
  | .tup ts, v, ρ => match v with
    | .tup xs => bindTs h ts xs ρ
    | .ref n => match h[n]? with
      | some (.lst xs) => bindTs h ts xs ρ
      | _ => none
    | _ => none
def bindTs (h : PH) : List T → List PV → Env → Option Env
  | [], [], ρ => some ρ
  | t :: ts, x :: xs, ρ => match bindT h t x ρ with
    | some ρ' => bindTs h ts xs ρ'
    | none => none
  | _, _, _ => none
end
abbrev Gd := List (Nat × PO)
def okG (g : Gd) (h : PH) : Bool := g.all fun p => decide (h[p.1]? = some p.2)
structure Its where
  xs : List PV
  g : Gd
def ofVal (v : PV) (h : PH) : Option Its := match v with
  | .tup xs => some ⟨xs, []⟩
  | .str s => if s.length ≤ szl then some ⟨s.map fun c => .str [c], []⟩ else none
  | .ref n => match h[n]? with
    | some (.lst xs) => some ⟨xs, [(n, .lst xs)]⟩
    | some (.frz xs) => some ⟨xs, [(n, .frz xs)]⟩
    | _ => none
  | _ => none
def ofLst (v : PV) (h : PH) : Option Its := match v with
  | .ref n => match h[n]? with
    | some (.lst xs) => some ⟨xs, [(n, .lst xs)]⟩
    | some (.frz xs) => some ⟨xs, [(n, .frz xs)]⟩
    | _ => none
  | _ => none
def ofSq (v : PV) (h : PH) : Option Its := match v with
  | .tup xs => some ⟨xs, []⟩
  | _ => ofLst v h
def small62 (i : Int) : Bool := decide (-(2 ^ 62) ≤ i ∧ i < 2 ^ 62)
def rngL (lo : Int) (n : Nat) : List PV := (List.range n).map fun i => .int (lo + (i : Nat))
def enumL (lo : Nat) : List PV → List PV
  | [] => []
  | x :: r => .tup [.int lo, x] :: enumL (lo + 1) r
def zipL : List PV → List PV → List PV
  | x :: r, y :: t => .tup [x, y] :: zipL r t
  | _, _ => []
def zipL3 : List PV → List PV → List PV → List PV
  | x :: r, y :: t, z :: q => .tup [x, y, z] :: zipL3 r t q
  | _, _, _ => []
def itsOf (k : IK) (vs : List PV) (h : PH) : Option Its := match k with
  | .val => match vs with
    | [v] => ofVal v h
    | _ => none
  | .rng => match vs with
    | [.int n] => if small62 n then some ⟨rngL 0 n.toNat, []⟩ else none
    | _ => none
  | .rng2 => match vs with
    | [.int a, .int b] => if small62 a && small62 b then some ⟨rngL a (b - a).toNat, []⟩ else none
    | _ => none
  | .enum => match vs with
    | [v] => (ofLst v h).map fun i => ⟨enumL 0 i.xs, i.g⟩
    | _ => none
  | .enumv => match vs with
    | [v] => (ofSq v h).map fun i => ⟨enumL 0 i.xs, i.g⟩
    | _ => none
  | .enums => match vs with
    | [.str s] => if s.length ≤ szl then some ⟨enumL 0 (s.map fun c => .str [c]), []⟩ else none
    | _ => none
  | .zip => match vs with
    | [v, w] => match ofLst v h, ofLst w h with
      | some i, some j => some ⟨zipL i.xs j.xs, i.g ++ j.g⟩
      | _, _ => none
    | _ => none
  | .zipv => match vs with
    | [v, w] => match ofVal v h, ofVal w h with
      | some i, some j => some ⟨zipL i.xs j.xs, i.g ++ j.g⟩
      | _, _ => none
    | _ => none
  | .zip3 => match vs with
    | [u, v, w] => match ofVal u h, ofVal v h, ofVal w h with
      | some i, some j, some k => some ⟨zipL3 i.xs j.xs k.xs, i.g ++ (j.g ++ k.g)⟩
      | _, _, _ => none
    | _ => none
  | .items => match vs with
    | [.ref n] => match h[n]? with
      | some (.ldc kvs) => some ⟨kvs.map fun p => .tup [p.1, p.2], [(n, .ldc kvs)]⟩
      | some (.ldt kvs) => some ⟨kvs.map fun p => .tup [p.1, p.2], [(n, .ldt kvs)]⟩
      | _ => none
    | _ => none
  | .values => match vs with
    | [.ref n] => match h[n]? with
      | some (.ldc kvs) => some ⟨kvs.map fun p => p.2, [(n, .ldc kvs)]⟩
      | some (.ldt kvs) => some ⟨kvs.map fun p => p.2, [(n, .ldt kvs)]⟩
      | _ => none
    | _ => none
  | .keys => match vs with
    | [.ref n] => match h[n]? with
      | some (.ldc kvs) => some ⟨kvs.map fun p => p.1, [(n, .ldc kvs)]⟩
      | some (.ldt kvs) => some ⟨kvs.map fun p => p.1, [(n, .ldt kvs)]⟩
      | _ => none
    | _ => none
def lenOf (v : PV) (h : PH) : Option Nat := match v with
  | .str s => if s.length ≤ szl then some s.length else none
  | .tup xs => some xs.length
  | .ref n => match h[n]? with
    | some (.lst xs) => some xs.length
    | some (.frz xs) => some xs.length
    | some (.dic kvs) => some kvs.length
    | some (.dit kvs) => some kvs.length
    | _ => none
  | _ => none
/-- tuples of ints; sorted, each once -/
def tupsOf : List PV → Option (List (List Int))
  | [] => some []
  | .tup xs :: r => (intsOf xs).bind fun t => (tupsOf r).map fun l => t :: l
  | _ => none
def insT (x : List Int) : List (List Int) → List (List Int)
  | [] => [x]
  | y :: r => if x = y then y :: r else if lexI x y then x :: y :: r else y :: insT x r
def sortTs (l : List (List Int)) : List (List Int) := l.foldr insT []
/-- d numbers each, none below 0 -/
def tFit (ts : List (List Int)) : Bool := decide (ts.length < 63) && (match ts with
  | [] => true
  | t :: _ => decide (1 ≤ t.length) && ts.all fun u => decide (u.length = t.length) && u.all fun i => decide (0 ≤ i ∧ i < 1000000))
/-- pairs of an int and a text; their order -/
def isV (p : Int × List Char) : PV := .tup [.int p.1, .str p.2]
def isOf : List PV → Option (List (Int × List Char))
  | [] => some []
  | .tup [.int i, .str s] :: r => (isOf r).map fun l => (i, s) :: l
  | _ => none
def ltP (p q : Int × List Char) : Bool := decide (p.1 < q.1) || (!decide (q.1 < p.1) && decide (p.2.map Char.toNat < q.2.map Char.toNat))
def insP {α : Type} (lt : α → α → Bool) (x : α) : List α → List α
  | [] => [x]
  | y :: r => if lt y x then y :: insP lt x r else x :: y :: r
def srtP {α : Type} (lt : α → α → Bool) : List α → List α
  | [] => []
  | x :: r => insP lt x (srtP lt r)
def maxL : Int → List Int → Int
  | m, [] => m
  | m, x :: r => maxL (if x > m then x else m) r
def minL : Int → List Int → Int
  | m, [] => m
  | m, x :: r => minL (if x < m then x else m) r
def insI (x : Int) : List Int → List Int
  | [] => [x]
  | y :: r => if x ≤ y then x :: y :: r else y :: insI x r
def sortI : List Int → List Int
  | [] => []
  | x :: r => insI x (sortI r)
def sumL : List Int → Int
  | [] => 0
  | x :: r => x + sumL r
/-- the items of a list or tuple -/
def seqOf (v : PV) (h : PH) : Option (List PV) := match v with
  | .tup xs => some xs
  | .ref n => match h[n]? with
    | some (.lst xs) => some xs
    | some (.frz xs) => some xs
    | _ => none
  | _ => none
/-- .. or the signs of a text -/
def lisOf (v : PV) (h : PH) : Option (List PV) := match v with
  | .str s => if s.length ≤ szl then some (s.map fun c => .str [c]) else none
  | _ => seqOf v h
/-- the keys of a dict -/
def dkeys (v : PV) (h : PH) : Option (List PV) := match v with
  | .ref n => match h[n]? with
    | some (.dic kvs) => some (kvs.map fun p => p.1)
    | _ => none
  | _ => none
/-- the items of a list -/
def lstOf (v : PV) (h : PH) : Option (List PV) := match v with
  | .ref n => match h[n]? with
    | some (.lst xs) => some xs
    | some (.frz xs) => some xs
    | _ => none
  | _ => none
def blsOf : List PV → Option (List Bool)
  | [] => some []
  | .bl i :: r => (blsOf r).map fun l => i :: l
  | _ => none
/-- ascending, each once -/
def insU (x : Int) : List Int → List Int
  | [] => [x]
  | y :: r => if x < y then x :: y :: r else if x = y then y :: r else y :: insU x r
def sortU : List Int → List Int
  | [] => []
  | x :: r => insU x (sortU r)
/-- signs, ascending, each once -/
def insC (x : Char) : List Char → List Char
  | [] => [x]
  | y :: r => if x.toNat < y.toNat then x :: y :: r else if x.toNat = y.toNat then y :: r else y :: insC x r
def sortC : List Char → List Char
  | [] => []
  | x :: r => insC x (sortC r)
/-- the name of a value's type -/
def tyN (v : PV) (h : PH) : Option String := match v with
  | .non => some "NoneType"
  | .bl _ => some "bool"
  | .int _ => some "int"
  | .str _ => some "str"
  | .tup _ => some "tuple"
  | .ref n => match h[n]? with
    | some (.lst _) => some "list"
    | some (.frz _) => some "list"
    | some (.dic _) => some "dict"
    | some (.dit _) => none
    | some (.ldc _) => none
    | some (.ldt _) => none
    | some (.ins c _) => some c
    | some (.exn c _) => some c
    | some .lam => none
    | none => none
def bltV (f : String) (vs : List PV) (h : PH) : R PV := match f with
  | "len" => match vs with
    | [v] => oneR ((lenOf v h).map fun (k : Nat) => PV.int (k : Int)) h
    | _ => .bad
  | "int" => match vs with
    | [.int i] => .ok (.int i) h
    | [.bl b] => .ok (.int (if b then 1 else 0)) h
    | _ => .bad
  | "str" => match vs with
    | [.int i] => if i.natAbs.log2 < 1920 then .ok (.str (toString i).toList) h else .bad
    | [.str s] => .ok (.str s) h
    | _ => .bad
  | "max" => match vs with
    | [.int i, .int j] => .ok (.int (if j > i then j else i)) h
    | _ => .bad
  | "min" => match vs with
    | [.int i, .int j] => .ok (.int (if j < i then j else i)) h
    | _ => .bad
  | "tuple" => match vs with
    | [v] => oneR ((seqOf v h).map fun xs => .tup xs) h
    | _ => .bad
  | "list" => match vs with
    | [v] => match lisOf v h with
      | some xs => .ok (.ref h.length) (h ++ [.lst xs])
      | none => .bad
    | _ => .bad
  | "list keys" => match vs with
    | [v] => match dkeys v h with
      | some ks => .ok (.ref h.length) (h ++ [.lst ks])
      | none => .bad
    | _ => .bad
  | "trng" => match vs with
    | [.int n] => if 0 ≤ n ∧ n ≤ 16777216 then .ok (.tup (rngL 0 n.toNat)) h else .bad
    | _ => .bad
  | "lrng" => match vs with
    | [.int n] => if 0 ≤ n ∧ n ≤ 16777216 then .ok (.ref h.length) (h ++ [.lst (rngL 0 n.toNat)]) else .bad
    | _ => .bad
  | "lrng2" => match vs with
    | [.int a, .int b] => if 0 ≤ a ∧ a ≤ 16777216 ∧ 0 ≤ b ∧ b ≤ 16777216 then .ok (.ref h.length) (h ++ [.lst (rngL a (b - a).toNat)]) else .bad
    | _ => .bad
  | "sum" => match vs with
    | [v] => match (lstOf v h).bind intsOf with
      | some ns => .ok (.int (sumL ns)) h
      | none => .bad
    | _ => .bad
  | "maxof" => match vs with
    | [v] => match (lstOf v h).bind intsOf with
      | some (n :: ns) => .ok (.int (maxL n ns)) h
      | _ => .bad
    | _ => .bad
  | "minof" => match vs with
    | [v] => match (lstOf v h).bind intsOf with
      | some (n :: ns) => .ok (.int (minL n ns)) h
      | _ => .bad
    | _ => .bad
  | "all" => match vs with
    | [v] => match (lstOf v h).bind blsOf with
      | some bs => .ok (.bl (bs.all id)) h
      | _ => .bad
    | _ => .bad
  | "any" => match vs with
    | [v] => match (lstOf v h).bind blsOf with
      | some bs => .ok (.bl (bs.any id)) h
      | _ => .bad
    | _ => .bad
  | "revl" => match vs with
    | [.ref n] => match h[n]? with
      | some (.lst xs) => .ok (.ref h.length) (h ++ [.lst xs.reverse])
      | _ => .bad
    | _ => .bad
  | "sorted" => match vs with
    | [v] => match (seqOf v h).bind intsOf with
      | some ns => .ok (.ref h.length) (h ++ [.lst ((sortI ns).map .int)])
      | none => .bad
    | _ => .bad
  | "sorted pairs" => match vs with
    | [.ref n] => match h[n]? with
      | some (.lst xs) => match isOf xs with
        | some ps => .ok (.ref h.length) (h ++ [.lst ((srtP ltP ps).map isV)])
        | none => .bad
      | _ => .bad
    | _ => .bad
  | "len set" => match vs with
    | [v] => match (seqOf v h).bind intsOf with
      | some ns => if ns.length < 4000 then .ok (.int ((sortU ns).length : Nat)) h else .bad
      | none => .bad
    | _ => .bad
  | "list values" => match vs with
    | [.ref n] => match h[n]? with
      | some (.dic kvs) => .ok (.ref h.length) (h ++ [.lst (kvs.map fun p => p.2)])
      | _ => .bad
    | _ => .bad
  | "repr" => match vs with
    | [v] => match shw h 60 v with
      | some t => if t.length ≤ szl then .ok (.str t) h else .bad
      | none => .bad
    | _ => .bad
  | "sorted dict" => match vs with
    | [v] => match (dkeys v h).bind intsOf with
      | some ns => if ns.length < 64 then .ok (.ref h.length) (h ++ [.lst ((sortI ns).map .int)]) else .bad
      | none => .bad
    | _ => .bad
  | "sorted lset" => match vs with
    | [v] => match (lstOf v h).bind intsOf with
      | some ns => if ns.length < 4000 ∧ (sortU ns).length < 64 then .ok (.ref h.length) (h ++ [.lst ((sortU ns).map .int)]) else .bad
      | none => .bad
    | _ => .bad
  | "sorted tset" => match vs with
    | [v] => match (lstOf v h).bind tupsOf with
      | some ts => if tFit ts then .ok (.ref h.length) (h ++ [.lst ((sortTs ts).map fun t => .tup (t.map .int))]) else .bad
      | none => .bad
    | _ => .bad
  | "sorted set" => match vs with
    | [.str s] => if s.length < 63 then .ok (.ref h.length) (h ++ [.lst ((sortC s).map fun c => .str [c])]) else .bad
    | [v] => match (lstOf v h).bind intsOf with
      | some ns => if ns.length < 63 then .ok (.ref h.length) (h ++ [.lst ((sortU ns).map .int)]) else .bad
      | none => .bad
    | _ => .bad
  | _ => .bad
/-- what such a method is asked of -/
def isL (x : PV) (h : PH) : Bool := match x with
  | .ref n => match h[n]? with
    | some (.lst _) => true
    | _ => false
  | _ => false
def isD (x : PV) (h : PH) : Bool := match x with
  | .ref n => match h[n]? with
    | some (.dic _) => true
    | _ => false
  | _ => false
def isDT (x : PV) (h : PH) : Bool := match x with
  | .ref n => match h[n]? with
    | some (.dit _) => true
    | _ => false
  | _ => false
def isS (x : PV) : Bool := match x with
  | .str _ => true
  | _ => false
def mok (m : String) (x : PV) (h : PH) : Bool := match m with
  | "append" => isL x h
  | "extend" => isL x h
  | "pop" => isL x h
  | "clear" => isL x h
  | "get" => isD x h
  | "tget" => isDT x h
  | "lindex" => isL x h
  | "join" => isS x
  | "endswith" => isS x
  | "sindex" => isS x
  | _ => false
/-- methods of built-in things, by values -/
def appV (x : PV) (vs : List PV) (h : PH) : R PV := match x, vs with
  | .ref n, [y] => match h[n]? with
    | some (.lst xs) => if xs.length < szl then .ok .non (h.set n (.lst (xs ++ [y]))) else .bad
    | _ => .bad
  | _, _ => .bad
def extV (x : PV) (vs : List PV) (h : PH) : R PV := match x, vs with
  | .ref n, [.ref k] => match h[n]?, h[k]? with
    | some (.lst xs), some (.lst ys) => if xs.length + ys.length ≤ szl then .ok .non (h.set n (.lst (xs ++ ys))) else .bad
    | _, _ => .bad
  | _, _ => .bad
def popV (x : PV) (vs : List PV) (h : PH) : R PV := match x, vs with
  | .ref n, [] => match h[n]? with
    | some (.lst xs) => match xs[xs.length - 1]? with
      | some y => .ok y (h.set n (.lst xs.dropLast))
      | none => .bad
    | _ => .bad
  | .ref n, [.int i] => match h[n]? with
    | some (.lst xs) => if i = 0 then (match xs with
      | y :: r => .ok y (h.set n (.lst r))
      | [] => .bad) else if 0 < i ∧ i < xs.length ∧ i ≤ 16777216 then oneR xs[i.toNat]? (h.set n (.lst (xs.eraseIdx i.toNat))) else .bad
    | _ => .bad
  | _, _ => .bad
def getV (x : PV) (vs : List PV) (h : PH) : R PV := match x, vs with
  | .ref n, [k] => match h[n]? with
    | some (.dic kvs) => if keyOk k then .ok ((lookK k kvs).getD .non) h else .bad
    | _ => .bad
  | .ref n, [k, d] => match h[n]? with
    | some (.dic kvs) => if keyOk k then .ok ((lookK k kvs).getD d) h else .bad
    | _ => .bad
  | _, _ => .bad
def tgetV (x : PV) (vs : List PV) (h : PH) : R PV := match x, vs with
  | .ref n, [k, d] => match h[n]? with
    | some (.dit kvs) => if tkOk k && tkFit k kvs then .ok ((lookK k kvs).getD d) h else .bad
    | _ => .bad
  | _, _ => .bad
def lidxV (x : PV) (vs : List PV) (h : PH) : R PV := match x, vs with
  | .ref n, [.int k] => match (lstOf (.ref n) h).bind intsOf with
    | some ns => if k ∈ ns then .ok (.int (ns.idxOf k : Nat)) h else .bad
    | none => .bad
  | _, _ => .bad
def strsOf : List PV → Option (List (List Char))
  | [] => some []
  | .str s :: r => (strsOf r).map fun l => s :: l
  | _ => none
def joinS (s : List Char) : List (List Char) → List Char
  | [] => []
  | [x] => x
  | x :: y :: r => x ++ s ++ joinS s (y :: r)
def lenS : List (List Char) → Nat
  | [] => 0
  | x :: r => x.length + lenS r
def joinV (x : PV) (vs : List PV) (h : PH) : R PV := match x, vs with
  | .str s, [v] => match (seqOf v h).bind strsOf with
    | some ts => if lenS ts + ts.length * s.length ≤ szl then .ok (.str (joinS s ts)) h else .bad
    | none => .bad
  | _, _ => .bad
def endsV (x : PV) (vs : List PV) (h : PH) : R PV := match x, vs with
  | .str s, [.str t] => .ok (.bl (t.isSuffixOf s)) h
  | _, _ => .bad
def idxC (c : Char) : List Char → Option Nat
  | [] => none
  | d :: r => if d = c then some 0 else (idxC c r).map (· + 1)
def sidxV (x : PV) (vs : List PV) (h : PH) : R PV := match x, vs with
  | .str s, [.str [c]] => match idxC c s with
    | some i => .ok (.int (i : Nat)) h
    | none => .bad
  | _, _ => .bad
def clrV (x : PV) (vs : List PV) (h : PH) : R PV := match x, vs with
  | .ref n, [] => match h[n]? with
    | some (.lst _) => .ok .non (h.set n (.lst []))
    | _ => .bad
  | _, _ => .bad
def mthV (m : String) (x : PV) (vs : List PV) (h : PH) : R PV := match m with
  | "append" => appV x vs h
  | "extend" => extV x vs h
  | "pop" => popV x vs h
  | "clear" => clrV x vs h
  | "get" => getV x vs h
  | "tget" => tgetV x vs h
  | "lindex" => lidxV x vs h
  | "join" => joinV x vs h
  | "endswith" => endsV x vs h
  | "sindex" => sidxV x vs h
  | _ => .bad
/-- a dict is walked: from now on it is only read -/
def lckV (x : PV) (h : PH) : R PV := match x with
  | .ref n => match h[n]? with
    | some (.dic kvs) => .ok x (h.set n (.ldc kvs))
    | some (.ldc _) => .ok x h
    | some (.dit kvs) => .ok x (h.set n (.ldt kvs))
    | some (.ldt _) => .ok x h
    | _ => .bad
  | _ => .bad
def setiV (o i v : PV) (h : PH) : R Unit := match o with
  | .ref n => match h[n]? with
    | some (.lst xs) => match i with
      | .int k => match ixN xs.length k with
        | some j => .ok () (h.set n (.lst (xs.set j v)))
        | none => .bad
      | _ => .bad
    | some (.dic kvs) => if keyOk i && decide (kvs.length < szl) then .ok () (h.set n (.dic (putK i v kvs))) else if tkOk i && kvs.isEmpty then .ok () (h.set n (.dit [(i, v)])) else .bad
    | some (.dit kvs) => if tkAt i kvs && decide (kvs.length < szl) then .ok () (h.set n (.dit (putK i v kvs))) else .bad
    | _ => .bad
  | _ => .bad
/-- the attributes of an instance -/
def putFs (f : String) (v : PV) : List (String × PV) → List (String × PV)
  | [] => [(f, v)]
  | (g, w) :: r => if g = f then (g, v) :: r else (g, w) :: putFs f v r
def fldV (o : PV) (f : String) (h : PH) : R PV := match o with
  | .ref n => match h[n]? with
    | some (.ins _ fs) => oneR (fs.lookup f) h
    | some (.exn _ fs) => oneR (fs.lookup f) h
    | _ => .bad
  | _ => .bad
/-- of an instance alone -/
def fldI (o : PV) (f : String) (h : PH) : R PV := match o with
  | .ref n => match h[n]? with
    | some (.ins _ fs) => oneR (fs.lookup f) h
    | _ => .bad
  | _ => .bad
def setfV (o : PV) (f : String) (v : PV) (h : PH) : R Unit := match o with
  | .ref n => match h[n]? with
    | some (.ins c fs) => if fs.length < 900 then .ok () (h.set n (.ins c (putFs f v fs))) else .bad
    | _ => .bad
  | _ => .bad
/-- the class of an instance, one of cs, that has no attribute m of its own -/
def clsOf (o : PV) (m : String) (cs : List String) (h : PH) : Option String := match o with
  | .ref n => match h[n]? with
    | some (.ins c fs) => if fs.lookup m = none ∧ c ∈ cs then some c else none
    | _ => none
  | _ => none
def augV (neg : Bool) (x y : PV) (h : PH) : R PV := match x, y with
  | .int i, .int j => .ok (.int (if neg then i - j else i + j)) h
  | _, _ => .bad
/-- an instance of the same class -/
def sameC (x : PV) (h h' : PH) : Bool := match x with
  | .ref n => match h[n]?, h'[n]? with
    | some (.ins c _), some (.ins d _) => decide (c = d)
    | _, _ => false
  | _ => false
def setAll : List Nat → List PV → Env → Option Env
  | [], [], ρ => some ρ
  | i :: is, v :: vs, ρ => setAll is vs (ρ.set i (some v))
  | _, _, _ => none
/-- keys and values by turns -/
def kvsOf : List PV → Option (List (PV × PV))
  | [] => some []
  | [_] => none
  | k :: v :: r => (kvsOf r).map fun l => (k, v) :: l
def putAll (kvs : List (PV × PV)) : List (PV × PV) → List (PV × PV)
  | [] => kvs
  | (k, v) :: r => putAll (putK k v kvs) r
/-- the pairs that a dict comprehension made -/
def putTs (kvs : List (PV × PV)) : List PV → List (PV × PV)
  | [] => kvs
  | .tup [k, v] :: r => putTs (putK k v kvs) r
  | _ :: r => putTs kvs r
def permV (ix : List Nat) (vs : List PV) : Option (List PV) := if vs.length = ix.length then mapO (fun i => vs[i]?) ix else none
/-- a result of an expression, in a statement -/
def R.lift {α : Type} (ρ : Env) : R α → (α → PH → R Fl) → R Fl
  | .ok a h, f => f a h
  | .exc x h, _ => .ok (.xc x ρ) h
  | .bad, _ => .bad
@[simp] theorem lift_ok {α : Type} (ρ : Env) (a : α) (h : PH) (f : α → PH → R Fl) : (R.ok a h).lift ρ f = f a h := rfl
@[simp] theorem lift_exc {α : Type} (ρ : Env) (x : PX) (h : PH) (f : α → PH → R Fl) : (R.exc x h : R α).lift ρ f = .ok (.xc x ρ) h := rfl
@[simp] theorem lift_bad {α : Type} (ρ : Env) (f : α → PH → R Fl) : (R.bad : R α).lift ρ f = .bad := rfl
/-- the name of an except clause goes -/
def unF (i : Nat) : R Fl → R Fl
  | .ok (.nx ρ) h => .ok (.nx (ρ.set i none)) h
  | .ok (.bk ρ) h => .ok (.bk (ρ.set i none)) h
  | .ok (.ct ρ) h => .ok (.ct (ρ.set i none)) h
  | .ok (.rt v) h => .ok (.rt v) h
  | _ => .bad
/-- no exception leaves an except suite -/
def noxF : R Fl → R Fl
  | .ok (.xc _ _) _ => .bad
  | .ok f h => .ok f h
  | _ => .bad
/-- what an own __len__, __contains__, __eq__ gives -/
def lenR (r : PV) (h : PH) : R PV := match r with
  | .int i => if 0 ≤ i ∧ i < 4611686018427387904 then .ok (.int i) h else .bad
  | _ => .bad
def negR (neg : Bool) (r : PV) (h : PH) : R PV := match r with
  | .bl t => .ok (.bl (if neg then !t else t)) h
  | _ => .bad
/-- an operator's own method; what may stand behind it -/
def opN : BOp → String
  | .band => "__and__" | .bor => "__or__" | .bxor => "__xor__" | .add => "__add__" | .sub => "__sub__" | .mul => "__mul__" | .fdiv => "__floordiv__" | .mod => "__mod__" | .pow => "__pow__"
def opFit (c : String) (y : PV) (h : PH) : Bool := match y with
  | .ref n => match h[n]? with
    | some (.lst _) => true
    | some (.frz _) => true
    | some (.dic _) => true
    | some (.ins d _) => decide (d = c)
    | _ => false
  | _ => true
/-- keys, one behind the other, that the dict can take -/
def fitAll : List (PV × PV) → List (PV × PV) → Bool
  | _, [] => true
  | acc, (k, x) :: r => tkOk k && (tkFit k acc && fitAll (putK k x acc) r)
def isIns (x : PV) (h : PH) : Bool := match x with
  | .ref n => match h[n]? with
    | some (.ins _ _) => true
    | _ => false
  | _ => false
/-- which one it is, by their own == -/
def whichL (cl : Cl) (ks : List String) (x : PV) (g : Gd) : Nat → List PV → PH → R (Option Nat)
  | _, [], h => if okG g h then .ok none h else .bad
  | i, y :: r, h => if okG g h && isIns x h then (if y = x then .ok (some i) h else match clsOf y "__eq__" ks h with
      | some c => (cl (.m c "__eq__") [y, x] h).bind fun b h2 => match b with
          | .bl true => .ok (some i) h2
          | .bl false => whichL cl ks x g (i + 1) r h2
          | _ => .bad
      | none => .bad) else .bad
/-- all alike, one behind the other, by their own == -/
def allEq (cl : Cl) (ks : List String) : List PV → List PV → PH → R Bool
  | x :: r, y :: t, h => if isIns y h then (if x = y then allEq cl ks r t h else match clsOf x "__eq__" ks h with
      | some c => (cl (.m c "__eq__") [x, y] h).bind fun b h2 => match b with
          | .bl true => allEq cl ks r t h2
          | .bl false => .ok false h2
          | _ => .bad
      | none => .bad) else .bad
  | [], [], h => .ok true h
  | _, _, h => .ok false h
def nox {α : Type} : R α → R α
  | .exc _ _ => .bad
  | r => r
def lcL (g : Gd) (step : PV → PH → R (Option PV)) : List PV → PH → R (List PV)
  | [], h => if okG g h then .ok [] h else .bad
  | x :: r, h => if okG g h then (nox (step x h)).bind fun o h1 => (lcL g step r h1).bind fun ys h2 => .ok (match o with
      | some y => y :: ys
      | none => ys) h2 else .bad
/-- parts put together; n: how many stand before -/
def lcC (g : Gd) (step : Nat → PV → PH → R (List PV)) : Nat → List PV → PH → R (List PV)
  | _, [], h => if okG g h then .ok [] h else .bad
  | n, x :: r, h => if okG g h then (nox (step n x h)).bind fun ys h1 => (lcC g step (n + ys.length) r h1).bind fun zs h2 => .ok (ys ++ zs) h2 else .bad
def forL (g : Gd) (step : PV → Env → PH → R Fl) : List PV → Env → PH → R Fl
  | [], ρ, h => if okG g h then .ok (.nx ρ) h else .bad
  | x :: r, ρ, h => if okG g h then (step x ρ h).bind fun f h1 => match f with
      | .nx ρ1 => forL g step r ρ1 h1
      | .ct ρ1 => forL g step r ρ1 h1
      | .bk ρ1 => .ok (.nx ρ1) h1
      | .rt v => .ok (.rt v) h1
      | .xc x ρ1 => .ok (.xc x ρ1) h1
    else .bad
def whL (c : Env → PH → R Bool) (body : Env → PH → R Fl) : Nat → Env → PH → R Fl
  | 0, _, _ => .bad
  | n + 1, ρ, h => (c ρ h).lift ρ fun b h1 => if b then (body ρ h1).bind fun f h2 => match f with
      | .nx ρ1 => whL c body n ρ1 h2
      | .ct ρ1 => whL c body n ρ1 h2
      | .bk ρ1 => .ok (.nx ρ1) h2
      | .rt v => .ok (.rt v) h2
      | .xc x ρ1 => .ok (.xc x ρ1) h2
    else .ok (.nx ρ) h1
def wipeE (ρ : Env) : List Nat → Env
  | [] => ρ
  | i :: r => wipeE (ρ.set i none) r
mutual
def ev (cl : Cl) : E → Env → PH → R PV
  | .v i, ρ, h => match ρ[i]? with
    | some (some v) => .ok v h
    | _ => .bad
  | .k c, _, h => .ok c h
  | .bop o a b, ρ, h => (ev cl a ρ h).bind fun x h1 => (ev cl b ρ h1).bind fun y h2 => bopV o x y h2
  | .neg a, ρ, h => (ev cl a ρ h).bind fun x h1 => match x with
    | .int i => .ok (.int (-i)) h1
    | _ => .bad
  | .nt a, ρ, h => (ev cl a ρ h).bind fun x h1 => (truR x h1).bind fun b h2 => .ok (.bl (!b)) h2
  | .and a b, ρ, h => (ev cl a ρ h).bind fun x h1 => (truR x h1).bind fun c h2 => if c then ev cl b ρ h2 else .ok x h2
  | .or a b, ρ, h => (ev cl a ρ h).bind fun x h1 => (truR x h1).bind fun c h2 => if c then .ok x h2 else ev cl b ρ h2
  | .cmp o a b, ρ, h => (ev cl a ρ h).bind fun x h1 => (ev cl b ρ h1).bind fun y h2 => cmpV o x y h2
  | .chain o o' a b c, ρ, h => (ev cl a ρ h).bind fun x h1 => (ev cl b ρ h1).bind fun y h2 => (cmpV o x y h2).bind fun r h3 => match r with
    | .bl true => (ev cl c ρ h3).bind fun z h4 => cmpV o' y z h4
    | .bl false => .ok (.bl false) h3
    | _ => .bad
  | .ite c a b, ρ, h => (ev cl c ρ h).bind fun x h1 => (truR x h1).bind fun t h2 => if t then ev cl a ρ h2 else ev cl b ρ h2
  | .call f as, ρ, h => (evs cl as ρ h).bind fun vs h1 => cl (.f f) vs h1
  | .new c as, ρ, h => (evs cl as ρ h).bind fun vs h1 => (cl (.m c "__init__") (.ref h1.length :: vs) (h1 ++ [.ins c []])).bind fun r h2 => if r = .non then .ok (.ref h1.length) h2 else .bad
  | .blt f as, ρ, h => (evs cl as ρ h).bind fun vs h1 => bltV f vs h1
  | .isi a ts, ρ, h => (ev cl a ρ h).bind fun x h1 => bR ((tyN x h1).map fun t => decide (t ∈ ts)) h1
  | .mth m o as, ρ, h => (ev cl o ρ h).bind fun x h1 => if mok m x h1 then (evs cl as ρ h1).bind fun vs h2 => mthV m x vs h2 else .bad
  | .mto m ks o as, ρ, h => (ev cl o ρ h).bind fun x h1 => match clsOf x m ks h1 with
    | some c => (evs cl as ρ h1).bind fun vs h2 => cl (.m c m) (x :: vs) h2
    | none => .bad
  | .fld o f, ρ, h => (ev cl o ρ h).bind fun x h1 => fldV x f h1
  | .prop f ks o, ρ, h => (ev cl o ρ h).bind fun x h1 => match clsOf x f ks h1 with
    | some c => nox (cl (.m c f) [x] h1)
    | none => .bad
  | .idx a b, ρ, h => (ev cl a ρ h).bind fun x h1 => (ev cl b ρ h1).bind fun y h2 => idxV x y h2
  | .slc a lo hi, ρ, h => (ev cl a ρ h).bind fun x h1 => (evo cl lo ρ h1).bind fun i h2 => (evo cl hi ρ h2).bind fun j h3 => slcV x i j h3
  | .tup es, ρ, h => (evs cl es ρ h).bind fun vs h1 => if vs.length ≤ szl then .ok (.tup vs) h1 else .bad
  | .lst es, ρ, h => (evs cl es ρ h).bind fun vs h1 => if vs.length ≤ szl then .ok (.ref h1.length) (h1 ++ [.lst vs]) else .bad
  | .dct ks vs, ρ, h => match ks, vs with
    | [], [] => .ok (.ref h.length) (h ++ [.dic []])
    | _, _ => .bad
  | .lc elt t ik its cs own, ρ, h => (evs cl its ρ h).bind fun vs h1 => match itsOf ik vs h1 with
    | some i => if i.xs.length < szl then
        (lcL i.g (fun x h2 => match bindT h2 t x (wipeE ρ own) with
          | some ρ1 => (evc cl cs ρ1 h2).bind fun b h3 => if b then (ev cl elt ρ1 h3).bind fun y h4 => .ok (some y) h4 else .ok none h3
          | none => .bad) i.xs h1).bind fun ys h5 => .ok (.ref h5.length) (h5 ++ [.lst ys])
      else .bad
    | none => .bad
  | .dsp es, ρ, h => (evs cl es ρ (h ++ [.dic []])).bind fun vs h1 => match kvsOf vs with
    | some kvs => if (kvs.all fun p => keyOk p.1) && decide (kvs.length ≤ 15) && decide (h1[h.length]? = some (.dic [])) then .ok (.ref h.length) (h1.set h.length (.dic (putAll [] kvs))) else .bad
    | none => .bad
  | .lck a, ρ, h => (ev cl a ρ h).bind fun x h1 => lckV x h1
  | .dsp1 a b, ρ, h => (ev cl a ρ (h ++ [.dic []])).bind fun x h1 => (ev cl b ρ h1).bind fun y h2 => if tkOk x && decide (h2[h.length]? = some (.dic [])) then .ok (.ref h.length) (h2.set h.length (.dit [(x, y)])) else .bad
  | .dc ke ve t ik its cs own, ρ, h => (evs cl its ρ h).bind fun vs h1 => match itsOf ik vs h1 with
    | some i => if i.xs.length < szl then
        (lcL i.g (fun x h2 => match bindT h2 t x (wipeE ρ own) with
          | some ρ1 => (evc cl cs ρ1 h2).bind fun b h3 => if b then (ev cl ke ρ1 h3).bind fun k h4 => if keyOk k then (ev cl ve ρ1 h4).bind fun y h5 => .ok (some (.tup [k, y])) h5 else .bad else .ok none h3
          | none => .bad) i.xs h1).bind fun ys h5 => .ok (.ref h5.length) (h5 ++ [.dic (putTs [] ys)])
      else .bad
    | none => .bad
  | .tups es e, ρ, h => (evs cl es ρ h).bind fun vs h1 => (ev cl e ρ h1).bind fun x h2 => match seqOf x h2 with
    | some ys => if vs.length + ys.length ≤ szl then .ok (.tup (vs ++ ys)) h2 else .bad
    | none => .bad
  | .callk f ix as, ρ, h => (evs cl as ρ h).bind fun vs h1 => match permV ix vs with
    | some us => cl (.f f) us h1
    | none => .bad
  | .gin neg kvs a, ρ, h => (ev cl a ρ h).bind fun x h1 => if isS x then .ok (.bl (if neg then !(lookK x kvs).isSome else (lookK x kvs).isSome)) h1 else .bad
  | .gget kvs a, ρ, h => (ev cl a ρ h).bind fun x h1 => if isS x then oneR (lookK x kvs) h1 else .bad
  | .rev a, ρ, h => (ev cl a ρ h).bind fun x h1 => match x with
    | .tup xs => .ok (.tup xs.reverse) h1
    | _ => .bad
  | .mkx c as, ρ, h => (evs cl as ρ h).bind fun vs h1 => if vs.length ≤ szl then .ok (.ref h1.length) (h1 ++ [.exn c []]) else .bad
  | .mkxi c f e, ρ, h => (ev cl e ρ h).bind fun x h1 => .ok (.ref h1.length) (h1 ++ [.exn c [(f, x)]])
  | .lam f b, ρ, h => cl (.l f fun h1 => ev cl b ρ h1) [.ref h.length] (h ++ [.lam])
  | .wk e, ρ, h => (ev cl e ρ h).bind fun x h1 => cl .w [x] h1
  | .ln ks e, ρ, h => (ev cl e ρ h).bind fun x h1 => match clsOf x "__len__" ks h1 with
    | some c => (cl (.m c "__len__") [x] h1).bind fun r h2 => lenR r h2
    | none => bltV "len" [x] h1
  | .inn neg ks a b, ρ, h => (ev cl a ρ h).bind fun x h1 => (ev cl b ρ h1).bind fun y h2 => match clsOf y "__contains__" ks h2 with
    | some c => (cl (.m c "__contains__") [y, x] h2).bind fun r h3 => negR neg r h3
    | none => cmpV (if neg then .notin else .isin) x y h2
  | .oeq neg ks a b, ρ, h => (ev cl a ρ h).bind fun x h1 => (ev cl b ρ h1).bind fun y h2 => match clsOf x "__eq__" ks h2 with
    | some c => if (tyN y h2).isSome then (cl (.m c "__eq__") [x, y] h2).bind fun r h3 => negR neg r h3 else .bad
    | none => cmpV (if neg then .ne else .eq) x y h2
  | .obn o ks a b, ρ, h => (ev cl a ρ h).bind fun x h1 => (ev cl b ρ h1).bind fun y h2 => match clsOf x (opN o) ks h2 with
    | some c => if opFit c y h2 then cl (.m c (opN o)) [x, y] h2 else .bad
    | none => bopV o x y h2
  | .oiv ks a, ρ, h => (ev cl a ρ h).bind fun x h1 => match clsOf x "__invert__" ks h1 with
    | some c => cl (.m c "__invert__") [x] h1
    | none => .bad
  | .oin neg ks a b, ρ, h => (ev cl a ρ h).bind fun x h1 => (ev cl b ρ h1).bind fun l h2 => match l with
    | .ref n => match h2[n]? with
      | some (.lst ys) => (whichL cl ks x [(n, .lst ys)] 0 ys h2).bind fun o h3 => .ok (.bl (if neg then !o.isSome else o.isSome)) h3
      | _ => .bad
    | _ => .bad
  | .teq neg ks a b, ρ, h => (ev cl a ρ h).bind fun x h1 => (ev cl b ρ h1).bind fun y h2 => match x, y with
    | .tup xs, .tup ys => (allEq cl ks xs ys h2).bind fun o h3 => .ok (.bl (if neg then !o else o)) h3
    | _, _ => .bad
  | .oidx ks o a, ρ, h => (ev cl o ρ h).bind fun l h1 => if isL l h1 then (ev cl a ρ h1).bind fun x h2 => match l with
    | .ref n => match h2[n]? with
      | some (.lst ys) => (whichL cl ks x [(n, .lst ys)] 0 ys h2).bind fun o h3 => match o with
        | some i => .ok (.int (i : Nat)) h3
        | none => .bad
      | _ => .bad
    | _ => .bad
    else .bad
  | .dspT es, ρ, h => (evs cl es ρ (h ++ [.dic []])).bind fun vs h1 => match kvsOf vs with
    | some kvs => if fitAll [] kvs && decide (kvs ≠ []) && decide (kvs.length ≤ 15) && decide (h1[h.length]? = some (.dic [])) then .ok (.ref h.length) (h1.set h.length (.dit (putAll [] kvs))) else .bad
    | none => .bad
  | .lc2 elt t ik its cs own t2 ik2 its2 cs2 own2, ρ, h => (evs cl its ρ h).bind fun vs h1 => match itsOf ik vs h1 with
    | some i => (lcC i.g (fun n x h2 => match bindT h2 t x (wipeE ρ own) with
        | some ρ1 => (evc cl cs ρ1 h2).bind fun b h3 => if b then (evs cl its2 ρ1 h3).bind fun us h4 => match itsOf ik2 us h4 with
            | some i2 => if n + i2.xs.length < szl then lcL i2.g (fun y h5 => match bindT h5 t2 y (wipeE ρ1 own2) with
                | some ρ2 => (evc cl cs2 ρ2 h5).bind fun b h6 => if b then (ev cl elt ρ2 h6).bind fun z h7 => .ok (some z) h7 else .ok none h6
                | none => .bad) i2.xs h4 else .bad
            | none => .bad
          else .ok [] h3
        | none => .bad) 0 i.xs h1).bind fun ys h5 => .ok (.ref h5.length) (h5 ++ [.lst ys])
    | none => .bad
  | .sc2 elt t ik its cs own t2 ik2 its2 cs2 own2, ρ, h => (evs cl its ρ h).bind fun vs h1 => match itsOf ik vs h1 with
    | some i => (lcC i.g (fun n x h2 => match bindT h2 t x (wipeE ρ own) with
        | some ρ1 => (evc cl cs ρ1 h2).bind fun b h3 => if b then (evs cl its2 ρ1 h3).bind fun us h4 => match itsOf ik2 us h4 with
            | some i2 => if n + i2.xs.length < szl then lcL i2.g (fun y h5 => match bindT h5 t2 y (wipeE ρ1 own2) with
                | some ρ2 => (evc cl cs2 ρ2 h5).bind fun b h6 => if b then (ev cl elt ρ2 h6).bind fun z h7 => .ok (some z) h7 else .ok none h6
                | none => .bad) i2.xs h4 else .bad
            | none => .bad
          else .ok [] h3
        | none => .bad) 0 i.xs h1).bind fun ys h5 => match intsOf ys with
      | some ns => if ns.length < 63 then .ok (.ref h5.length) (h5 ++ [.lst ((sortU ns).map .int)]) else .bad
      | none => .bad
    | none => .bad
def evs (cl : Cl) : List E → Env → PH → R (List PV)
  | [], _, h => .ok [] h
  | e :: es, ρ, h => (ev cl e ρ h).bind fun x h1 => (evs cl es ρ h1).bind fun xs h2 => .ok (x :: xs) h2
/-- all tests, from the left -/
def evc (cl : Cl) : List E → Env → PH → R Bool
  | [], _, h => .ok true h
  | e :: es, ρ, h => (ev cl e ρ h).bind fun x h1 => (truR x h1).bind fun b h2 => if b then evc cl es ρ h2 else .ok false h2
def evo (cl : Cl) : Option E → Env → PH → R (Option Int)
  | none, _, h => .ok none h
  | some e, ρ, h => (ev cl e ρ h).bind fun x h1 => match x with
    | .int i => .ok (some i) h1
    | _ => .bad
end
/-- a test -/
def tst (cl : Cl) (e : E) (ρ : Env) (h : PH) : R Bool := (ev cl e ρ h).bind fun x h1 => truR x h1
def wfuel : Nat := 1000000000
mutual
def ex (cl : Cl) : S → Env → PH → R Fl
  | .asg t e, ρ, h => (ev cl e ρ h).lift ρ fun x h1 => match bindT h1 t x ρ with
    | some ρ1 => .ok (.nx ρ1) h1
    | none => .bad
  | .par is es, ρ, h => (evs cl es ρ h).lift ρ fun xs h1 => match setAll is xs ρ with
    | some ρ1 => .ok (.nx ρ1) h1
    | none => .bad
  | .seti o i e, ρ, h => (ev cl e ρ h).lift ρ fun x h1 => (ev cl o ρ h1).lift ρ fun y h2 => (ev cl i ρ h2).lift ρ fun z h3 => (setiV y z x h3).lift ρ fun _ h4 => .ok (.nx ρ) h4
  | .setf o f e, ρ, h => (ev cl e ρ h).lift ρ fun x h1 => (ev cl o ρ h1).lift ρ fun y h2 => (setfV y f x h2).lift ρ fun _ h3 => .ok (.nx ρ) h3
  | .aug i o e, ρ, h => match ρ[i]? with
    | some (some x) => (ev cl e ρ h).lift ρ fun y h1 => (augV o x y h1).lift ρ fun z h2 => .ok (.nx (ρ.set i (some z))) h2
    | _ => .bad
  | .augf o f op e, ρ, h => (ev cl o ρ h).lift ρ fun x h1 => (fldI x f h1).lift ρ fun y h2 => (ev cl e ρ h2).lift ρ fun z h3 => if sameC x h2 h3 then (augV op y z h3).lift ρ fun w h4 => (setfV x f w h4).lift ρ fun _ h5 => .ok (.nx ρ) h5 else .bad
  | .ex e, ρ, h => (ev cl e ρ h).lift ρ fun _ h1 => .ok (.nx ρ) h1
  | .ret e, ρ, h => (ev cl e ρ h).lift ρ fun x h1 => .ok (.rt x) h1
  | .ite c a b, ρ, h => (tst cl c ρ h).lift ρ fun t h1 => if t then exs cl a ρ h1 else exs cl b ρ h1
  | .for_ t ik its body, ρ, h => (evs cl its ρ h).lift ρ fun vs h1 => match itsOf ik vs h1 with
    | some i => forL i.g (fun x ρ1 h2 => match bindT h2 t x ρ1 with
        | some ρ2 => exs cl body ρ2 h2
        | none => .bad) i.xs ρ h1
    | none => .bad
  | .while_ c body, ρ, h => whL (fun ρ1 h1 => tst cl c ρ1 h1) (fun ρ1 h1 => exs cl body ρ1 h1) wfuel ρ h
  | .pass, ρ, h => .ok (.nx ρ) h
  | .brk, ρ, h => .ok (.bk ρ) h
  | .cnt, ρ, h => .ok (.ct ρ) h
  | .raise c as, ρ, h => (evs cl as ρ h).lift ρ fun vs h1 => if vs.length ≤ szl then .ok (.xc ⟨c, []⟩ ρ) h1 else .bad
  | .raiseI c f e, ρ, h => (ev cl e ρ h).lift ρ fun x h1 => .ok (.xc ⟨c, [(f, x)]⟩ ρ) h1
  | .try_ body ks suite, ρ, h => (exs cl body ρ h).bind fun f h1 => match f with
    | .nx ρ1 => .ok (.nx ρ1) h1
    | .rt v => .ok (.rt v) h1
    | .bk ρ1 => .ok (.bk ρ1) h1
    | .ct ρ1 => .ok (.ct ρ1) h1
    | .xc x ρ1 => if x.cls ∈ ks then noxF (exs cl suite ρ1 h1) else .ok (.xc x ρ1) h1
  | .tryA body ks i suite, ρ, h => (exs cl body ρ h).bind fun f h1 => match f with
    | .nx ρ1 => .ok (.nx ρ1) h1
    | .rt v => .ok (.rt v) h1
    | .bk ρ1 => .ok (.bk ρ1) h1
    | .ct ρ1 => .ok (.ct ρ1) h1
    | .xc x ρ1 => if x.cls ∈ ks then unF i (exs cl suite (ρ1.set i (some (.ref h1.length))) (h1 ++ [.exn x.cls x.fs])) else .ok (.xc x ρ1) h1
def exs (cl : Cl) : List S → Env → PH → R Fl
  | [], ρ, h => .ok (.nx ρ) h
  | s :: r, ρ, h => (ex cl s ρ h).bind fun f h1 => match f with
    | .nx ρ1 => exs cl r ρ1 h1
    | .rt v => .ok (.rt v) h1
    | .bk ρ1 => .ok (.bk ρ1) h1
    | .ct ρ1 => .ok (.ct ρ1) h1
    | .xc x ρ1 => .ok (.xc x ρ1) h1
end
structure Fn where
  np : Nat
  nl : Nat
  body : List S
/-- what a body's end is to the caller -/
def endR : R Fl → R PV
  | .ok (.nx _) h => .ok .non h
  | .ok (.rt v) h => .ok v h
  | .ok (.xc x _) h => .exc x h
  | _ => .bad
def Fn.run (cl : Cl) (f : Fn) (vs : List PV) (h : PH) : R PV :=
  if vs.length = f.np then endR (exs cl f.body (vs.map some ++ List.replicate f.nl none) h) else .bad
/-- what a lambda is: k, its body where it was made (nothing that makes the store shorter) -/
def grw (h : PH) : R PV → R PV
  | .ok v h1 => if h.length ≤ h1.length then .ok v h1 else .bad
  | .exc x h1 => if h.length ≤ h1.length then .exc x h1 else .bad
  | .bad => .bad
def wkV (n0 : Nat) (k : PH → R PV) (vs : List PV) (h : PH) : R PV := match vs with
  | [.ref n] => if n = n0 then grw h (k h) else .bad
  | _ => .bad
/-- .. and how a def that got one calls -/
def clL (cl : Cl) (n0 : Nat) (k : PH → R PV) : Cl := fun f vs h => match f with
  | .w => wkV n0 k vs h
  | .f x => cl (.f x) vs h
  | .m c x => cl (.m c x) vs h
  | .l x k2 => cl (.l x k2) vs h
def lamV (t : FN → Option Fn) (cl : Cl) (f : FN) (vs : List PV) (h : PH) : R PV := match f with
  | .l x k => match t (.f x), vs with
    | some d, [.ref n] => d.run (clL cl n k) [.ref n] h
    | _, _ => .bad
  | _ => .bad
/-- calls, at most n within one another -/
def callN (t : FN → Option Fn) : Nat → Cl
  | 0 => fun _ _ _ => .bad
  | n + 1 => fun f vs h => match t f with
    | some d => d.run (callN t n) vs h
    | none => lamV t (callN t n) f vs h
end Mi
set_option linter.all false
set_option maxHeartbeats 1000000
namespace Mi
def Gro {α : Type} (h : PH) : R α → Prop
  | .ok _ h' => h.length ≤ h'.length
  | .exc _ h' => h.length ≤ h'.length
  | .bad => True
theorem Gro.bind {α β : Type} {h : PH} {r : R α} {f : α → PH → R β} (a : Gro h r) (b : ∀ x h1, h.length ≤ h1.length → Gro h1 (f x h1)) : Gro h (r.bind f) := by
  cases r with
  | ok x h1 =>
    have a' : h.length ≤ h1.length := a
    have q := b x h1 a'
    show Gro h (f x h1)
    cases e : f x h1 with
    | ok y h2 => rw [e] at q; exact Nat.le_trans a' q
    | exc y h2 => rw [e] at q; exact Nat.le_trans a' q
    | bad => trivial
  | exc x h1 => exact a
  | bad => trivial
theorem Gro.refl {α : Type} {h : PH} {x : α} : Gro h (.ok x h) := Nat.le_refl _
theorem Gro.app {α : Type} {h g : PH} {x : α} : Gro h (.ok x (h ++ g)) := by
  show h.length ≤ (h ++ g).length
  rw [List.length_append]
  omega
theorem Gro.set {α : Type} {h : PH} {x : α} {n : Nat} {o : PO} : Gro h (.ok x (h.set n o)) := by
  show h.length ≤ (h.set n o).length
  rw [List.length_set]
  omega
theorem Gro.bad {α : Type} {h : PH} : Gro h (.bad : R α) := trivial
local macro_rules | `(tactic| trivial) => `(tactic| exact Gro.refl)
local macro_rules | `(tactic| trivial) => `(tactic| exact Gro.app)
local macro_rules | `(tactic| trivial) => `(tactic| exact Gro.set)
local macro_rules | `(tactic| trivial) => `(tactic| exact Gro.bad)
theorem oneR_gro {α : Type} {o : Option α} {h : PH} : Gro h (oneR o h) := by cases o <;> trivial
theorem bR_gro {o : Option Bool} {h : PH} : Gro h (bR o h) := by cases o <;> trivial
theorem nbR_gro {o : Option Bool} {h : PH} : Gro h (nbR o h) := by cases o <;> trivial
theorem truR_gro {v : PV} {h : PH} : Gro h (truR v h) := by unfold truR; split <;> trivial
theorem bopV_gro {o : BOp} {x y : PV} {h : PH} : Gro h (bopV o x y h) := by unfold bopV; repeat' split <;> try trivial
theorem cmpV_gro {o : COp} {x y : PV} {h : PH} : Gro h (cmpV o x y h) := by
  unfold cmpV
  split
  · exact bR_gro
  · exact nbR_gro
  · exact bR_gro
  · exact nbR_gro
  all_goals (repeat' split <;> try trivial)
theorem idxV_gro {x y : PV} {h : PH} : Gro h (idxV x y h) := by unfold idxV; (repeat' split) <;> first | trivial | exact oneR_gro
theorem slcV_gro {x : PV} {lo hi : Option Int} {h : PH} : Gro h (slcV x lo hi h) := by unfold slcV; repeat' split <;> try trivial
theorem fldI_gro {x : PV} {f : String} {h : PH} : Gro h (fldI x f h) := by unfold fldI; (repeat' split) <;> first | trivial | exact oneR_gro
theorem fldV_gro {x : PV} {f : String} {h : PH} : Gro h (fldV x f h) := by unfold fldV; (repeat' split) <;> first | trivial | exact oneR_gro
theorem setfV_gro {x v : PV} {f : String} {h : PH} : Gro h (setfV x f v h) := by unfold setfV; repeat' split <;> try trivial
theorem setiV_gro {o i v : PV} {h : PH} : Gro h (setiV o i v h) := by unfold setiV; repeat' split <;> try trivial
theorem appV_gro {x : PV} {vs : List PV} {h : PH} : Gro h (appV x vs h) := by unfold appV; repeat' split <;> try trivial
theorem extV_gro {x : PV} {vs : List PV} {h : PH} : Gro h (extV x vs h) := by unfold extV; repeat' split <;> try trivial
theorem popV_gro {x : PV} {vs : List PV} {h : PH} : Gro h (popV x vs h) := by unfold popV oneR; repeat' split <;> try trivial
theorem clrV_gro {x : PV} {vs : List PV} {h : PH} : Gro h (clrV x vs h) := by unfold clrV; repeat' split <;> try trivial
theorem getV_gro {x : PV} {vs : List PV} {h : PH} : Gro h (getV x vs h) := by unfold getV; repeat' split <;> try trivial
theorem tgetV_gro {x : PV} {vs : List PV} {h : PH} : Gro h (tgetV x vs h) := by unfold tgetV; repeat' split <;> try trivial
theorem lidxV_gro {x : PV} {vs : List PV} {h : PH} : Gro h (lidxV x vs h) := by unfold lidxV; repeat' split <;> try trivial
theorem joinV_gro {x : PV} {vs : List PV} {h : PH} : Gro h (joinV x vs h) := by unfold joinV; repeat' split <;> try trivial
theorem endsV_gro {x : PV} {vs : List PV} {h : PH} : Gro h (endsV x vs h) := by unfold endsV; repeat' split <;> try trivial
theorem sidxV_gro {x : PV} {vs : List PV} {h : PH} : Gro h (sidxV x vs h) := by unfold sidxV; repeat' split <;> try trivial
def GroC (cl : Cl) : Prop := ∀ f vs h, Gro h (cl f vs h)
theorem whichL_gro {cl : Cl} (hc : GroC cl) {ks : List String} {x : PV} {g : Gd} : ∀ {ys : List PV} {i : Nat} {h : PH}, Gro h (whichL cl ks x g i ys h)
  | [], i, h => by unfold whichL; split <;> trivial
  | y :: r, i, h => by
    unfold whichL
    split
    · split
      · trivial
      · split
        · refine (hc _ _ _).bind fun b h2 _ => ?_
          split
          · trivial
          · exact whichL_gro hc
          · trivial
        · trivial
    · trivial
theorem allEq_gro {cl : Cl} (hc : GroC cl) {ks : List String} : ∀ {xs ys : List PV} {h : PH}, Gro h (allEq cl ks xs ys h)
  | x :: r, y :: t, h => by
    unfold allEq
    split
    · split
      · exact allEq_gro hc
      · split
        · refine (hc _ _ _).bind fun b h2 _ => ?_
          split
          · exact allEq_gro hc
          · trivial
          · trivial
        · trivial
    · trivial
  | [], [], h => by unfold allEq; trivial
  | [], _ :: _, h => by unfold allEq; trivial
  | _ :: _, [], h => by unfold allEq; trivial
theorem mthV_gro {m : String} {x : PV} {vs : List PV} {h : PH} : Gro h (mthV m x vs h) := by
  unfold mthV
  split
  · exact appV_gro
  · exact extV_gro
  · exact popV_gro
  · exact clrV_gro
  · exact getV_gro
  · exact tgetV_gro
  · exact lidxV_gro
  · exact joinV_gro
  · exact endsV_gro
  · exact sidxV_gro
  · trivial
theorem bltV_gro {f : String} {vs : List PV} {h : PH} : Gro h (bltV f vs h) := by
  unfold bltV
  (repeat' split) <;> first | trivial | exact oneR_gro
theorem nox_gro {α : Type} {r : R α} {h : PH} (g : Gro h r) : Gro h (nox r) := by cases r <;> first | exact g | trivial
theorem lcL_gro {g : Gd} {step : PV → PH → R (Option PV)} (hs : ∀ x h, Gro h (step x h)) : ∀ (xs : List PV) (h : PH), Gro h (lcL g step xs h)
  | [], h => by unfold lcL; split <;> trivial
  | x :: r, h => by
    unfold lcL
    split
    · exact (nox_gro (hs x h)).bind fun o h1 _ => (lcL_gro hs r h1).bind fun ys h2 _ => by split <;> trivial
    · trivial
theorem lcC_gro {g : Gd} {step : Nat → PV → PH → R (List PV)} (hs : ∀ n x h, Gro h (step n x h)) : ∀ (n : Nat) (xs : List PV) (h : PH), Gro h (lcC g step n xs h)
  | _, [], h => by unfold lcC; split <;> first | trivial | exact Gro.refl
  | n, x :: r, h => by
    unfold lcC
    split
    · exact (nox_gro (hs n x h)).bind fun o h1 _ => (lcC_gro hs _ r h1).bind fun ys h2 _ => Gro.refl
    · trivial
theorem Gro.lift {α : Type} {ρ : Env} {r : R α} {f : α → PH → R Fl} {h : PH} (g : Gro h r) (k : ∀ a h1, h.length ≤ h1.length → Gro h1 (f a h1)) : Gro h (r.lift ρ f) := by
  cases r with
  | ok a h1 => exact g.bind (r := R.ok a h1) k
  | exc x h1 => exact g
  | bad => trivial
theorem augV_gro {n : Bool} {x y : PV} {h : PH} : Gro h (augV n x y h) := by unfold augV; repeat' split <;> try trivial
theorem unF_gro {i : Nat} {r : R Fl} {h : PH} (g : Gro h r) : Gro h (unF i r) := by unfold unF; split <;> first | exact g | trivial
theorem Gro.app1 {α : Type} {r : R α} {h : PH} {o : PO} (g : Gro (h ++ [o]) r) : Gro h r := by
  cases r with
  | ok a h1 => exact Nat.le_trans (by simp) g
  | exc x h1 => exact Nat.le_trans (by simp) g
  | bad => exact g
theorem noxF_gro {r : R Fl} {h : PH} (g : Gro h r) : Gro h (noxF r) := by unfold noxF; split <;> first | exact g | trivial
theorem forL_gro {g : Gd} {step : PV → Env → PH → R Fl} (hs : ∀ x ρ h, Gro h (step x ρ h)) : ∀ (xs : List PV) (ρ : Env) (h : PH), Gro h (forL g step xs ρ h)
  | [], ρ, h => by unfold forL; split <;> trivial
  | x :: r, ρ, h => by
    unfold forL
    split
    · exact (hs x ρ h).bind fun f h1 _ => by split <;> first | exact forL_gro hs r _ _ | trivial
    · trivial
theorem whL_gro {c : Env → PH → R Bool} {b : Env → PH → R Fl} (hc : ∀ ρ h, Gro h (c ρ h)) (hb : ∀ ρ h, Gro h (b ρ h)) : ∀ (n : Nat) (ρ : Env) (h : PH), Gro h (whL c b n ρ h)
  | 0, _, _ => trivial
  | n + 1, ρ, h => by
    unfold whL
    exact (hc ρ h).lift fun t h1 _ => by
      split
      · exact (hb ρ h1).bind fun f h2 _ => by split <;> first | exact whL_gro hc hb n _ _ | trivial
      · trivial
theorem lenR_gro {r : PV} {h : PH} : Gro h (lenR r h) := by unfold lenR; repeat' split <;> try trivial
theorem negR_gro {neg : Bool} {r : PV} {h : PH} : Gro h (negR neg r h) := by unfold negR; repeat' split <;> try trivial
theorem app_le {h1 h2 g : PH} (l : (h1 ++ g).length ≤ h2.length) : h1.length ≤ h2.length := by rw [List.length_append] at l; omega
mutual
theorem ev_gro {cl : Cl} (hc : GroC cl) : ∀ (c : E) (ρ : Env) (h : PH), Gro h (ev cl c ρ h)
  | .v i, ρ, h => by simp only [ev]; split <;> trivial
  | .k c, ρ, h => by simp only [ev]; trivial
  | .bop o a b, ρ, h => by simp only [ev]; exact (ev_gro hc a ρ h).bind fun x h1 _ => (ev_gro hc b ρ h1).bind fun y h2 _ => bopV_gro
  | .neg a, ρ, h => by simp only [ev]; exact (ev_gro hc a ρ h).bind fun x h1 _ => by split <;> trivial
  | .nt a, ρ, h => by simp only [ev]; exact (ev_gro hc a ρ h).bind fun x h1 _ => truR_gro.bind fun b h2 _ => Gro.refl
  | .and a b, ρ, h => by simp only [ev]; exact (ev_gro hc a ρ h).bind fun x h1 _ => truR_gro.bind fun t h2 _ => by split <;> first | exact ev_gro hc b ρ h2 | trivial
  | .or a b, ρ, h => by simp only [ev]; exact (ev_gro hc a ρ h).bind fun x h1 _ => truR_gro.bind fun t h2 _ => by split <;> first | exact ev_gro hc b ρ h2 | trivial
  | .cmp o a b, ρ, h => by simp only [ev]; exact (ev_gro hc a ρ h).bind fun x h1 _ => (ev_gro hc b ρ h1).bind fun y h2 _ => cmpV_gro
  | .chain o o' a b c, ρ, h => by
    simp only [ev]
    exact (ev_gro hc a ρ h).bind fun x h1 _ => (ev_gro hc b ρ h1).bind fun y h2 _ => cmpV_gro.bind fun r h3 _ => by
      split
      · exact (ev_gro hc c ρ h3).bind fun z h4 _ => cmpV_gro
      · trivial
      · trivial
  | .ite c a b, ρ, h => by simp only [ev]; exact (ev_gro hc c ρ h).bind fun x h1 _ => truR_gro.bind fun t h2 _ => by split <;> first | exact ev_gro hc a ρ h2 | exact ev_gro hc b ρ h2
  | .call f as, ρ, h => by simp only [ev]; exact (evs_gro hc as ρ h).bind fun vs h1 _ => hc _ _ _
  | .new c as, ρ, h => by
    simp only [ev]
    refine (evs_gro hc as ρ h).bind fun vs h1 _ => ?_
    have q := (hc (.m c "__init__") (.ref h1.length :: vs) (h1 ++ [.ins c []])).bind (f := fun r h2 => if r = .non then R.ok (PV.ref h1.length) h2 else .bad) fun r h2 _ => by split <;> trivial
    cases e : (cl (.m c "__init__") (.ref h1.length :: vs) (h1 ++ [.ins c []])).bind fun r h2 => if r = .non then R.ok (PV.ref h1.length) h2 else .bad with
    | ok v h2 => rw [e] at q; exact app_le q
    | exc v h2 => rw [e] at q; exact app_le q
    | bad => trivial
  | .blt f as, ρ, h => by simp only [ev]; exact (evs_gro hc as ρ h).bind fun vs h1 _ => bltV_gro
  | .isi a ts, ρ, h => by simp only [ev]; exact (ev_gro hc a ρ h).bind fun x h1 _ => bR_gro
  | .mth m o as, ρ, h => by
    simp only [ev]
    refine (ev_gro hc o ρ h).bind fun x h1 _ => ?_
    split
    · exact (evs_gro hc as ρ h1).bind fun vs h2 _ => mthV_gro
    · trivial
  | .mto m ks o as, ρ, h => by
    simp only [ev]
    refine (ev_gro hc o ρ h).bind fun x h1 _ => ?_
    split
    · exact (evs_gro hc as ρ h1).bind fun vs h2 _ => hc _ _ _
    · trivial
  | .fld o f, ρ, h => by simp only [ev]; exact (ev_gro hc o ρ h).bind fun x h1 _ => fldV_gro
  | .prop f ks o, ρ, h => by simp only [ev]; exact (ev_gro hc o ρ h).bind fun x h1 _ => by split <;> first | exact nox_gro (hc _ _ _) | trivial
  | .idx a b, ρ, h => by simp only [ev]; exact (ev_gro hc a ρ h).bind fun x h1 _ => (ev_gro hc b ρ h1).bind fun y h2 _ => idxV_gro
  | .slc a lo hi, ρ, h => by simp only [ev]; exact (ev_gro hc a ρ h).bind fun x h1 _ => (evo_gro hc lo ρ h1).bind fun i h2 _ => (evo_gro hc hi ρ h2).bind fun j h3 _ => slcV_gro
  | .tup es, ρ, h => by simp only [ev]; exact (evs_gro hc es ρ h).bind fun vs h1 _ => by split <;> trivial
  | .lst es, ρ, h => by simp only [ev]; exact (evs_gro hc es ρ h).bind fun vs h1 _ => by split <;> trivial
  | .dct ks vs, ρ, h => by simp only [ev]; split <;> trivial
  | .lc elt t ik its cs own, ρ, h => by
    simp only [ev]
    refine (evs_gro hc its ρ h).bind fun vs h1 _ => ?_
    split
    · split
      · refine (lcL_gro (fun x h2 => ?_) _ _).bind fun ys h5 _ => Gro.app
        split
        · exact (evc_gro hc cs _ h2).bind fun b h3 _ => by
            split
            · exact (ev_gro hc elt _ h3).bind fun y h4 _ => Gro.refl
            · trivial
        · trivial
      · trivial
    · trivial
  | .mkx c as, ρ, h => by
    simp only [ev]
    exact (evs_gro hc as ρ h).bind fun vs h1 _ => by split <;> first | exact Gro.app | trivial
  | .mkxi c f e, ρ, h => by
    simp only [ev]
    exact (ev_gro hc e ρ h).bind fun x h1 _ => Gro.app
  | .lam f b, ρ, h => by
    simp only [ev]
    exact Gro.app1 (hc _ _ _)
  | .wk e, ρ, h => by
    simp only [ev]
    exact (ev_gro hc e ρ h).bind fun x h1 _ => hc _ _ _
  | .ln ks e, ρ, h => by
    simp only [ev]
    exact (ev_gro hc e ρ h).bind fun x h1 _ => by
      split
      · exact (hc _ _ _).bind fun r h2 _ => lenR_gro
      · exact bltV_gro
  | .inn neg ks a b, ρ, h => by
    simp only [ev]
    exact (ev_gro hc a ρ h).bind fun x h1 _ => (ev_gro hc b ρ h1).bind fun y h2 _ => by
      split
      · exact (hc _ _ _).bind fun r h3 _ => negR_gro
      · exact cmpV_gro
  | .oeq neg ks a b, ρ, h => by
    simp only [ev]
    exact (ev_gro hc a ρ h).bind fun x h1 _ => (ev_gro hc b ρ h1).bind fun y h2 _ => by
      split
      · split
        · exact (hc _ _ _).bind fun r h3 _ => negR_gro
        · trivial
      · exact cmpV_gro
  | .obn o ks a b, ρ, h => by
    simp only [ev]
    exact (ev_gro hc a ρ h).bind fun x h1 _ => (ev_gro hc b ρ h1).bind fun y h2 _ => by
      split
      · split
        · exact hc _ _ _
        · trivial
      · exact bopV_gro
  | .oiv ks a, ρ, h => by
    simp only [ev]
    exact (ev_gro hc a ρ h).bind fun x h1 _ => by
      split
      · exact hc _ _ _
      · trivial
  | .oin neg ks a b, ρ, h => by
    simp only [ev]
    refine (ev_gro hc a ρ h).bind fun x h1 _ => (ev_gro hc b ρ h1).bind fun y h2 _ => ?_
    split
    · split
      · exact (whichL_gro hc).bind fun o h3 _ => Gro.refl
      · trivial
    · trivial
  | .teq neg ks a b, ρ, h => by
    simp only [ev]
    refine (ev_gro hc a ρ h).bind fun x h1 _ => (ev_gro hc b ρ h1).bind fun y h2 _ => ?_
    split
    · exact (allEq_gro hc).bind fun o h3 _ => Gro.refl
    · trivial
  | .oidx ks o a, ρ, h => by
    simp only [ev]
    refine (ev_gro hc o ρ h).bind fun l h1 _ => ?_
    split
    · refine (ev_gro hc a ρ h1).bind fun x h2 _ => ?_
      split
      · split
        · refine (whichL_gro hc).bind fun o h3 _ => ?_
          split
          · exact Gro.refl
          · trivial
        · trivial
      · trivial
    · trivial
  | .dspT es, ρ, h => by
    simp only [ev]
    refine Gro.app1 (o := .dic []) ?_
    refine (evs_gro hc es ρ (h ++ [.dic []])).bind fun vs h1 _ => ?_
    split
    · split
      · exact Gro.set
      · trivial
    · trivial
  | .dsp es, ρ, h => by
    simp only [ev]
    refine Gro.app1 (o := .dic []) ?_
    refine (evs_gro hc es ρ (h ++ [.dic []])).bind fun vs h1 _ => ?_
    split
    · split
      · exact Gro.set
      · trivial
    · trivial
  | .lck a, ρ, h => by
    simp only [ev]
    refine (ev_gro hc a ρ h).bind fun x h1 _ => ?_
    unfold lckV
    repeat' split
    all_goals first | exact Gro.set | exact Gro.refl | trivial
  | .dsp1 a b, ρ, h => by
    simp only [ev]
    refine Gro.app1 (o := .dic []) ?_
    refine (ev_gro hc a ρ (h ++ [.dic []])).bind fun x h1 _ => (ev_gro hc b ρ h1).bind fun y h2 _ => ?_
    split
    · exact Gro.set
    · trivial
  | .dc ke ve t ik its cs own, ρ, h => by
    simp only [ev]
    refine (evs_gro hc its ρ h).bind fun vs h1 _ => ?_
    split
    · split
      · refine (lcL_gro (fun x h2 => ?_) _ _).bind fun ys h5 _ => Gro.app
        split
        · exact (evc_gro hc cs _ h2).bind fun b h3 _ => by
            split
            · exact (ev_gro hc ke _ h3).bind fun k h4 _ => by
                split
                · exact (ev_gro hc ve _ h4).bind fun y h5 _ => Gro.refl
                · trivial
            · trivial
        · trivial
      · trivial
    · trivial
  | .tups es e, ρ, h => by
    simp only [ev]
    refine (evs_gro hc es ρ h).bind fun vs h1 _ => (ev_gro hc e ρ h1).bind fun x h2 _ => ?_
    split
    · split <;> trivial
    · trivial
  | .callk f ix as, ρ, h => by
    simp only [ev]
    refine (evs_gro hc as ρ h).bind fun vs h1 _ => ?_
    split
    · exact hc _ _ _
    · trivial
  | .gin neg kvs a, ρ, h => by
    simp only [ev]
    exact (ev_gro hc a ρ h).bind fun x h1 _ => by split <;> trivial
  | .gget kvs a, ρ, h => by
    simp only [ev]
    exact (ev_gro hc a ρ h).bind fun x h1 _ => by
      split
      · exact oneR_gro
      · trivial
  | .rev a, ρ, h => by
    simp only [ev]
    exact (ev_gro hc a ρ h).bind fun x h1 _ => by split <;> trivial
  | .lc2 elt t ik its cs own t2 ik2 its2 cs2 own2, ρ, h => by
    simp only [ev]
    refine (evs_gro hc its ρ h).bind fun vs h1 _ => ?_
    split
    · refine (lcC_gro (fun n x h2 => ?_) _ _ _).bind fun ys h5 _ => Gro.app
      split
      · refine (evc_gro hc cs _ h2).bind fun b h3 _ => ?_
        split
        · refine (evs_gro hc its2 _ h3).bind fun us h4 _ => ?_
          split
          · split
            · refine lcL_gro (fun y h5 => ?_) _ _
              split
              · exact (evc_gro hc cs2 _ h5).bind fun b h6 _ => by
                  split
                  · exact (ev_gro hc elt _ h6).bind fun y h4 _ => Gro.refl
                  · trivial
              · trivial
            · trivial
          · trivial
        · exact Gro.refl
      · trivial
    · trivial
  | .sc2 elt t ik its cs own t2 ik2 its2 cs2 own2, ρ, h => by
    simp only [ev]
    refine (evs_gro hc its ρ h).bind fun vs h1 _ => ?_
    split
    · refine (lcC_gro (fun n x h2 => ?_) _ _ _).bind fun ys h5 _ => by
        split
        · split <;> first | exact Gro.app | trivial
        · trivial
      split
      · refine (evc_gro hc cs _ h2).bind fun b h3 _ => ?_
        split
        · refine (evs_gro hc its2 _ h3).bind fun us h4 _ => ?_
          split
          · split
            · refine lcL_gro (fun y h5 => ?_) _ _
              split
              · exact (evc_gro hc cs2 _ h5).bind fun b h6 _ => by
                  split
                  · exact (ev_gro hc elt _ h6).bind fun y h4 _ => Gro.refl
                  · trivial
              · trivial
            · trivial
          · trivial
        · exact Gro.refl
      · trivial
    · trivial
theorem evs_gro {cl : Cl} (hc : GroC cl) : ∀ (c : List E) (ρ : Env) (h : PH), Gro h (evs cl c ρ h)
  | [], ρ, h => by simp only [evs]; trivial
  | e :: es, ρ, h => by simp only [evs]; exact (ev_gro hc e ρ h).bind fun x h1 _ => (evs_gro hc es ρ h1).bind fun xs h2 _ => Gro.refl
theorem evc_gro {cl : Cl} (hc : GroC cl) : ∀ (c : List E) (ρ : Env) (h : PH), Gro h (evc cl c ρ h)
  | [], ρ, h => by simp only [evc]; trivial
  | e :: es, ρ, h => by simp only [evc]; exact (ev_gro hc e ρ h).bind fun x h1 _ => truR_gro.bind fun b h2 _ => by split <;> first | exact evc_gro hc es ρ h2 | trivial
theorem evo_gro {cl : Cl} (hc : GroC cl) : ∀ (c : Option E) (ρ : Env) (h : PH), Gro h (evo cl c ρ h)
  | none, ρ, h => by simp only [evo]; trivial
  | some e, ρ, h => by simp only [evo]; exact (ev_gro hc e ρ h).bind fun x h1 _ => by split <;> trivial
end
theorem tst_gro {cl : Cl} (hc : GroC cl) (c : E) (ρ : Env) (h : PH) : Gro h (tst cl c ρ h) := (ev_gro hc c ρ h).bind fun x h1 _ => truR_gro
mutual
theorem ex_gro {cl : Cl} (hc : GroC cl) : ∀ (c : S) (ρ : Env) (h : PH), Gro h (ex cl c ρ h)
  | .asg t e, ρ, h => by simp only [ex]; exact (ev_gro hc e ρ h).lift fun x h1 _ => by split <;> trivial
  | .seti o i e, ρ, h => by simp only [ex]; exact (ev_gro hc e ρ h).lift fun x h1 _ => (ev_gro hc o ρ h1).lift fun y h2 _ => (ev_gro hc i ρ h2).lift fun z h3 _ => setiV_gro.lift fun _ h4 _ => Gro.refl
  | .setf o f e, ρ, h => by simp only [ex]; exact (ev_gro hc e ρ h).lift fun x h1 _ => (ev_gro hc o ρ h1).lift fun y h2 _ => setfV_gro.lift fun _ h4 _ => Gro.refl
  | .aug i o e, ρ, h => by
    simp only [ex]
    split
    · exact (ev_gro hc e ρ h).lift fun x h1 _ => augV_gro.lift fun z h2 _ => Gro.refl
    · trivial
  | .augf o f op e, ρ, h => by
    simp only [ex]
    refine (ev_gro hc o ρ h).lift fun x h1 _ => fldI_gro.lift fun y h2 _ => (ev_gro hc e ρ h2).lift fun z h3 _ => ?_
    split
    · exact augV_gro.lift fun w h4 _ => setfV_gro.lift fun _ h5 _ => Gro.refl
    · trivial
  | .ex e, ρ, h => by simp only [ex]; exact (ev_gro hc e ρ h).lift fun x h1 _ => Gro.refl
  | .ret e, ρ, h => by simp only [ex]; exact (ev_gro hc e ρ h).lift fun x h1 _ => Gro.refl
  | .ite c a b, ρ, h => by simp only [ex]; exact (tst_gro hc c ρ h).lift fun x h1 _ => by split <;> first | exact exs_gro hc a ρ h1 | exact exs_gro hc b ρ h1
  | .for_ t ik its body, ρ, h => by
    simp only [ex]
    refine (evs_gro hc its ρ h).lift fun vs h1 _ => ?_
    split
    · exact forL_gro (fun x ρ1 h2 => by split <;> first | exact exs_gro hc body _ h2 | trivial) _ _ _
    · trivial
  | .while_ c body, ρ, h => by simp only [ex]; exact whL_gro (fun ρ1 h1 => tst_gro hc c ρ1 h1) (fun ρ1 h1 => exs_gro hc body ρ1 h1) _ _ _
  | .pass, ρ, h => by simp only [ex]; trivial
  | .brk, ρ, h => by simp only [ex]; trivial
  | .cnt, ρ, h => by simp only [ex]; trivial
  | .raise c as, ρ, h => by simp only [ex]; exact (evs_gro hc as ρ h).lift fun x h1 _ => by split <;> first | trivial | exact Gro.refl
  | .raiseI c f e, ρ, h => by simp only [ex]; exact (ev_gro hc e ρ h).lift fun x h1 _ => by trivial
  | .par is es, ρ, h => by simp only [ex]; exact (evs_gro hc es ρ h).lift fun x h1 _ => by split <;> trivial
  | .try_ body ks suite, ρ, h => by
    simp only [ex]
    refine (exs_gro hc body ρ h).bind fun f h1 _ => ?_
    split
    · trivial
    · trivial
    · trivial
    · trivial
    · split
      · exact noxF_gro (exs_gro hc suite _ h1)
      · trivial
  | .tryA body ks i suite, ρ, h => by
    simp only [ex]
    refine (exs_gro hc body ρ h).bind fun f h1 _ => ?_
    split
    · trivial
    · trivial
    · trivial
    · trivial
    · split
      · exact unF_gro (Gro.app1 (exs_gro hc suite _ _))
      · trivial
theorem exs_gro {cl : Cl} (hc : GroC cl) : ∀ (c : List S) (ρ : Env) (h : PH), Gro h (exs cl c ρ h)
  | [], ρ, h => by simp only [exs]; trivial
  | s :: r, ρ, h => by simp only [exs]; exact (ex_gro hc s ρ h).bind fun f h1 _ => by split <;> first | exact exs_gro hc r _ h1 | trivial
end
theorem endR_gro {r : R Fl} {h : PH} (g : Gro h r) : Gro h (endR r) := by
  unfold endR
  split <;> first | exact g | trivial
theorem run_gro {cl : Cl} (hc : GroC cl) (f : Fn) (vs : List PV) (h : PH) : Gro h (f.run cl vs h) := by
  unfold Fn.run
  split
  · exact endR_gro (exs_gro hc _ _ h)
  · trivial
theorem grw_gro {h : PH} {r : R PV} : Gro h (grw h r) := by
  unfold grw
  split
  · split
    · assumption
    · trivial
  · split
    · assumption
    · trivial
  · trivial
theorem grw_of {h : PH} {r : R PV} (g : Gro h r) : grw h r = r := by
  cases r with
  | ok v h1 => exact if_pos g
  | exc v h1 => exact if_pos g
  | bad => rfl
theorem clL_gro {cl : Cl} (hc : GroC cl) (n0 : Nat) (k : PH → R PV) : GroC (clL cl n0 k) := fun f vs h => by
  cases f with
  | w =>
    show Gro h (wkV n0 k vs h)
    unfold wkV
    split
    · split
      · exact grw_gro
      · trivial
    · trivial
  | f x => exact hc _ _ _
  | m c x => exact hc _ _ _
  | l x k2 => exact hc _ _ _
theorem lamV_gro (t : FN → Option Fn) {cl : Cl} (hc : GroC cl) : GroC (lamV t cl) := fun f vs h => by
  unfold lamV
  split
  · split
    · exact run_gro (clL_gro hc _ _) _ _ _
    · trivial
  · trivial
theorem callN_gro (t : FN → Option Fn) : ∀ n, GroC (callN t n)
  | 0 => fun _ _ _ => trivial
  | n + 1 => fun f vs h => by
    unfold callN
    split
    · exact run_gro (callN_gro t n) _ _ _
    · exact lamV_gro t (callN_gro t n) _ _ _
end Mi
set_option linter.all false
set_option maxRecDepth 10000
namespace Mi
end Mi
set_option Elab.async false
set_option linter.all false
set_option maxRecDepth 100000
namespace Mi
open PySem L2
abbrev S2 (s : List Char) : Str := ⟨(s.map Char.toNat).toArray⟩
/-- a lambda that was handed on: its place in the store, its function, its code and the code's name, where it was made -/
structure GF where
  n0 : Nat
  f : Addr
  c : Addr
  q : Str
  ρ : Env
  σ : St
/-- the classes of instances, of exceptions; the tables of code; the lambdas at hand -/
structure Cts where
  ins : String → Addr → Prop
  exc : String → Addr → Prop
  tbs : List (Addr × Str) := []
  gh : List GF := []
  nh : NestedKey → Int := fun _ => 0
mutual
inductive Rel (K : PySem.W.Frag) (m : Nat → Addr) (N : Nat) (G : Hp) : PV → V → Prop
  | non : Rel K m N G .non .non
  | bl (b : Bool) : Rel K m N G (.bl b) (.bl b)
  | int (i : Int) : Rel K m N G (.int i) (.int i)
  | str (s : List Char) : Rel K m N G (.str s) (.str (S2 s))
  | ref {n : Nat} (h : n < N) : Rel K m N G (.ref n) (.ref (m n))
  | tup {a : Addr} {xs : List PV} {vs : List V} (h : SqT K G a vs) (r : RelL K m N G xs vs) : Rel K m N G (.tup xs) (.ref a)
inductive RelL (K : PySem.W.Frag) (m : Nat → Addr) (N : Nat) (G : Hp) : List PV → List V → Prop
  | nil : RelL K m N G [] []
  | cons {x : PV} {v : V} {xs : List PV} {vs : List V} (a : Rel K m N G x v) (r : RelL K m N G xs vs) : RelL K m N G (x :: xs) (v :: vs)
end
/-- a list of the written part -/
def KpL (K : PySem.W.Frag) (a : Addr) (xs : List V) : Prop :=
  ∃ (o : Obj) (its : Array Value) (n : Nat), K.lookup a = some o ∧ o.cls = .type "list" ∧ o.dict = none ∧ o.data = .seq its n ∧ its.size ≤ sizeLine ∧ Vals xs its.toList
/-- attributes -/
def RelF (K : PySem.W.Frag) (m : Nat → Addr) (N : Nat) (G : Hp) : List (String × PV) → List (Str × V) → Prop
  | [], [] => True
  | (f, x) :: r, (g, v) :: t => g = Str.ofString f ∧ Rel K m N G x v ∧ RelF K m N G r t
  | _, _ => False
/-- keys of a dict: ints and texts -/
def RelK : PV → Key → Prop
  | .int i, .inl j => i = j
  | .str s, .inr z => z = S2 s
  | _, _ => False
def RelD (K : PySem.W.Frag) (m : Nat → Addr) (N : Nat) (G : Hp) : List (PV × PV) → List (Key × V) → Prop
  | [], [] => True
  | (k, x) :: r, (g, v) :: t => RelK k g ∧ Rel K m N G x v ∧ RelD K m N G r t
  | _, _ => False
/-- a key that is a tuple -/
def nkOf : Nat → PV → NestedKey
  | _, .non => .none
  | _, .bl b => .num (if b = true then 1 else 0)
  | _, .int i => .num i
  | _, .str s => .text (S2 s)
  | n + 1, .tup xs => .tup (xs.map (nkOf n))
  | _, _ => .none
def RelT (K : PySem.W.Frag) (m : Nat → Addr) (N : Nat) (G : Hp) : List (PV × PV) → List (NestedKey × Addr × V) → Prop
  | [], [] => True
  | (k, x) :: r, (g, b, v) :: t => (g = nkOf 8 k ∧ tkOk k = true ∧ Rel K m N G k (.ref b)) ∧ Rel K m N G x v ∧ RelT K m N G r t
  | _, _ => False
/-- an exception's attributes: in its dict -/
def ExF (K : PySem.W.Frag) (m : Nat → Addr) (N : Nat) (G : Hp) (fs : List (String × PV)) (d : Option Addr) : Prop :=
  (fs = [] ∧ d = none) ∨ ∃ dd gs, d = some dd ∧ G dd = some (.xd gs) ∧ RelF K m N G fs gs
def OR (K : PySem.W.Frag) (CT : Cts) (m : Nat → Addr) (N : Nat) (G H : Hp) (a : Addr) : PO → Prop
  | .lst xs => ∃ vs, H a = some (.lst vs) ∧ RelL K m N G xs vs
  | .frz xs => ∃ vs, ((∃ o, G a = some (.frz o (.lst vs))) ∨ KpL K a vs) ∧ RelL K m N G xs vs
  | .dic kvs => ∃ ks, H a = some (.dK ks) ∧ RelD K m N G kvs ks
  | .dit kvs => ∃ xs, H a = some (DitO CT.nh a xs) ∧ RelT K m N G kvs xs
  | .ldc kvs => ∃ od ks, G a = some (.frz od (.dK ks)) ∧ RelD K m N G kvs ks
  | .ldt kvs => ∃ od xs, G a = some (.frz od (DitO CT.nh a xs)) ∧ RelT K m N G kvs xs
  | .ins c fs => ∃ C dx gs, CT.ins c C ∧ H a = some (.ins C dx gs) ∧ RelF K m N G fs gs
  | .exn c fs => ∃ C d, CT.exc c C ∧ G a = some (EXO (.ref C) d a) ∧ ExF K m N G fs d
  | .lam => True
/-- not one that is only read -/
def nk : PO → Bool
  | .frz _ => false
  | .ldc _ => false
  | .ldt _ => false
  | .exn _ _ => false
  | .lam => false
  | _ => true
def Sub (G H : Hp) : Prop := ∀ b o, G b = some o → H b = some o
theorem Sub.refl {G : Hp} : Sub G G := fun _ _ q => q
theorem Sub.trans {G H J : Hp} (a : Sub G H) (b : Sub H J) : Sub G J := fun x o q => b x o (a x o q)
/-- the slots -/
def SR (K : PySem.W.Frag) (m : Nat → Addr) (N : Nat) (G : Hp) (ρ : Env) (σ : St) : Prop := ρ.length = σ.length ∧ ∀ (i : Nat) (x : PV), ρ[i]? = some (some x) → ∃ v, σ[i]? = some (some v) ∧ Rel K m N G x v
def GhOk (K : PySem.W.Frag) (m : Nat → Addr) (N : Nat) (G : Hp) (x : GF) : Prop := x.n0 < N ∧ m x.n0 = x.f ∧ G x.c = some (LamX.CodeO x.c x.q) ∧ SR K m N G x.ρ x.σ
/-- a table of code objects: what it tells is known to G -/
def TbOk (G H : Hp) (p : Addr × Str) : Prop := G p.1 = none ∧ ∃ ps : Array Value, H p.1 = some (.tbl ps) ∧ TriplesOk ps.toList ∧ ∀ (pos : Pos) (cv : Value), codeAmong pos ps.toList = some cv → ∃ c, cv = .ref c ∧ G c = some (LamX.CodeO c p.2)
/-- lambdas, tables -/
structure Xt (K : PySem.W.Frag) (CT : Cts) (m : Nat → Addr) (N : Nat) (G H : Hp) : Prop where
  gh : ∀ x ∈ CT.gh, GhOk K m N G x
  tb : ∀ p ∈ CT.tbs, TbOk G H p
  gt : ∀ b ps, G b ≠ some (.tbl ps)
structure HR (K : PySem.W.Frag) (CT : Cts) (m : Nat → Addr) (G H : Hp) (h : PH) : Prop where
  obj : ∀ i o, h[i]? = some o → OR K CT m h.length G H (m i) o
  inj : ∀ i j oi oj, h[i]? = some oi → h[j]? = some oj → i ≠ j → nk oi = true → nk oj = true → m i ≠ m j
  sub : Sub G H
  dj : ∀ i o, h[i]? = some o → nk o = true → G (m i) = none
  xt : Xt K CT m h.length G H
/-- the store's addresses stay -/
def Ex (m m' : Nat → Addr) (N : Nat) : Prop := ∀ n, n < N → m' n = m n
theorem Ex.refl {m : Nat → Addr} {N : Nat} : Ex m m N := fun _ _ => rfl
theorem Ex.trans {m m1 m2 : Nat → Addr} {N N1 : Nat} (a : Ex m m1 N) (b : Ex m1 m2 N1) (h : N ≤ N1) : Ex m m2 N := fun n hn => (b n (Nat.lt_of_lt_of_le hn h)).trans (a n hn)
section
variable {K : PySem.W.Frag} {CT : Cts} {m m' : Nat → Addr} {N N' : Nat} {G G' H H' : Hp} {h h' : PH}
theorem Sub.sqT (t : Sub G G') {a : Addr} {xs : List V} (q : SqT K G a xs) : SqT K G' a xs := by
  rcases q with (q | ⟨o, q⟩) | q
  · exact .inl (.inl (t _ _ q))
  · exact .inl (.inr ⟨o, t _ _ q⟩)
  · exact .inr q
mutual
theorem Rel.mono (e : Ex m m' N) (l : N ≤ N') (t : Sub G G') : ∀ {x : PV} {v : V}, Rel K m N G x v → Rel K m' N' G' x v
  | _, _, .non => .non
  | _, _, .bl b => .bl b
  | _, _, .int i => .int i
  | _, _, .str s => .str s
  | _, _, .ref (n := n) hn => by
    have q : Rel K m' N' G' (.ref n) (.ref (m' n)) := .ref (Nat.lt_of_lt_of_le hn l)
    rw [e n hn] at q
    exact q
  | _, _, .tup hs r => .tup (t.sqT hs) (RelL.mono e l t r)
theorem RelL.mono (e : Ex m m' N) (l : N ≤ N') (t : Sub G G') : ∀ {x : List PV} {v : List V}, RelL K m N G x v → RelL K m' N' G' x v
  | _, _, .nil => .nil
  | _, _, .cons a r => .cons (Rel.mono e l t a) (RelL.mono e l t r)
end
theorem SR.mono {ρ : Env} {σ : St} (s : SR K m N G ρ σ) (e : Ex m m' N) (l : N ≤ N') (t : Sub G G') : SR K m' N' G' ρ σ := ⟨s.1, fun i x q => by
  obtain ⟨v, h1, h2⟩ := s.2 i x q
  exact ⟨v, h1, h2.mono e l t⟩⟩
theorem Xt.keep (x : Xt K CT m N G H) (e : Ex m m' N) (l : N ≤ N') (k : ∀ p ps, H p = some (.tbl ps) → H' p = some (.tbl ps)) : Xt K CT m' N' G H' :=
  ⟨fun y hy => ⟨Nat.lt_of_lt_of_le (x.gh y hy).1 l, (e _ (x.gh y hy).1).trans (x.gh y hy).2.1, (x.gh y hy).2.2.1, (x.gh y hy).2.2.2.mono e l Sub.refl⟩,
    fun p hp => ⟨(x.tb p hp).1, let ⟨ps, h1, h2⟩ := (x.tb p hp).2; ⟨ps, k _ _ h1, h2⟩⟩, x.gt⟩
theorem Xt.grow (x : Xt K CT m N G H) (sg : Sub G G') (g : ∀ p ps, H p = some (.tbl ps) → H' p = some (.tbl ps) ∧ G' p = G p) (gt : ∀ b ps, G' b ≠ some (.tbl ps)) : Xt K CT m N G' H' :=
  ⟨fun y hy => ⟨(x.gh y hy).1, (x.gh y hy).2.1, sg _ _ (x.gh y hy).2.2.1, (x.gh y hy).2.2.2.mono Ex.refl (Nat.le_refl _) sg⟩,
    fun p hp => by
      obtain ⟨h0, ps, h1, h2, h3⟩ := x.tb p hp
      obtain ⟨h4, h5⟩ := g _ _ h1
      exact ⟨h5.trans h0, ps, h4, h2, fun pos cv e => let ⟨c, e1, e2⟩ := h3 pos cv e; ⟨c, e1, sg _ _ e2⟩⟩, gt⟩
theorem RelF.mono (e : Ex m m' N) (l : N ≤ N') (t : Sub G G') : ∀ {fs : List (String × PV)} {gs : List (Str × V)}, RelF K m N G fs gs → RelF K m' N' G' fs gs
  | [], [], _ => trivial
  | (f, x) :: r, (g, v) :: s, ⟨a, b, c⟩ => ⟨a, b.mono e l t, RelF.mono e l t c⟩
theorem RelD.mono (e : Ex m m' N) (l : N ≤ N') (t : Sub G G') : ∀ {fs : List (PV × PV)} {gs : List (Key × V)}, RelD K m N G fs gs → RelD K m' N' G' fs gs
  | [], [], _ => trivial
  | (f, x) :: r, (g, v) :: s, ⟨a, b, c⟩ => ⟨a, b.mono e l t, RelD.mono e l t c⟩
theorem RelT.mono (e : Ex m m' N) (l : N ≤ N') (t : Sub G G') : ∀ {fs : List (PV × PV)} {gs : List (NestedKey × Addr × V)}, RelT K m N G fs gs → RelT K m' N' G' fs gs
  | [], [], _ => trivial
  | (f, x) :: r, (g, b, v) :: s, ⟨⟨a1, a2, a3⟩, b1, c⟩ => ⟨⟨a1, a2, a3.mono e l t⟩, b1.mono e l t, RelT.mono e l t c⟩
theorem ExF.mono (e : Ex m m' N) (l : N ≤ N') (t : Sub G G') {fs : List (String × PV)} {d : Option Addr} (x : ExF K m N G fs d) : ExF K m' N' G' fs d := by
  rcases x with x | ⟨dd, gs, h1, h2, h3⟩
  · exact .inl x
  · exact .inr ⟨dd, gs, h1, t _ _ h2, h3.mono e l t⟩
theorem RelL.length : ∀ {xs : List PV} {vs : List V}, RelL K m N G xs vs → xs.length = vs.length
  | _, _, .nil => rfl
  | _, _, .cons _ r => by rw [List.length_cons, List.length_cons, r.length]
theorem RelL.append : ∀ {xs ys : List PV} {vs ws : List V}, RelL K m N G xs vs → RelL K m N G ys ws → RelL K m N G (xs ++ ys) (vs ++ ws)
  | _, _, _, _, .nil, q => q
  | _, _, _, _, .cons a r, q => .cons a (RelL.append r q)
theorem RelL.get : ∀ {xs : List PV} {vs : List V} {i : Nat} {x : PV}, RelL K m N G xs vs → xs[i]? = some x → ∃ v, vs[i]? = some v ∧ Rel K m N G x v
  | _, _, _, _, .nil, e => by simp at e
  | _, _, 0, _, .cons a r, e => by
    simp at e
    subst e
    exact ⟨_, rfl, a⟩
  | _, _, i + 1, _, .cons a r, e => by
    obtain ⟨v, h1, h2⟩ := RelL.get (i := i) r (by simpa using e)
    exact ⟨v, by simpa using h1, h2⟩
theorem RelL.take : ∀ {xs : List PV} {vs : List V} (n : Nat), RelL K m N G xs vs → RelL K m N G (xs.take n) (vs.take n)
  | _, _, 0, _ => .nil
  | _, _, _ + 1, .nil => .nil
  | _, _, n + 1, .cons a r => .cons a (RelL.take n r)
theorem RelL.drop : ∀ {xs : List PV} {vs : List V} (n : Nat), RelL K m N G xs vs → RelL K m N G (xs.drop n) (vs.drop n)
  | _, _, 0, r => r
  | _, _, _ + 1, .nil => .nil
  | _, _, n + 1, .cons a r => RelL.drop n r
theorem RelL.set {x : PV} {v : V} (q : Rel K m N G x v) : ∀ {xs : List PV} {vs : List V} (i : Nat), RelL K m N G xs vs → RelL K m N G (xs.set i x) (vs.set i v)
  | _, _, _, .nil => .nil
  | _, _, 0, .cons _ r => .cons q r
  | _, _, i + 1, .cons a r => .cons a (RelL.set q i r)
def mx (m : Nat → Addr) (N : Nat) (p : Addr) : Nat → Addr := fun n => if n = N then p else m n
theorem mx_new {p : Addr} : mx m N p N = p := if_pos rfl
theorem mx_old {p : Addr} {n : Nat} (h : n < N) : mx m N p n = m n := if_neg (Nat.ne_of_lt h)
theorem mx_ex {p : Addr} : Ex m (mx m N p) N := fun _ hn => mx_old hn
theorem HR.nn (R : HR K CT m G H h) {i : Nat} {o : PO} (e : h[i]? = some o) (k : nk o = true) : H (m i) ≠ none := by
  have q := R.obj i o e
  cases o with
  | lst xs => obtain ⟨vs, q, _⟩ := q; rw [q]; simp
  | frz xs => cases k
  | ldc xs => cases k
  | ldt xs => cases k
  | dic xs => obtain ⟨vs, q, _⟩ := q; rw [q]; simp
  | dit xs => obtain ⟨vs, q, _⟩ := q; rw [q]; simp [DitO]
  | ins c fs => obtain ⟨C, dx, gs, _, q, _⟩ := q; rw [q]; simp
  | exn c fs => cases k
  | lam => cases k
theorem HR.nt (R : HR K CT m G H h) {i : Nat} {o : PO} (e : h[i]? = some o) (k : nk o = true) {ps : Array Value} : H (m i) ≠ some (.tbl ps) := by
  have q := R.obj i o e
  cases o with
  | lst xs => obtain ⟨vs, q, _⟩ := q; rw [q]; simp
  | frz xs => cases k
  | ldc xs => cases k
  | ldt xs => cases k
  | dic xs => obtain ⟨vs, q, _⟩ := q; rw [q]; simp
  | dit xs => obtain ⟨vs, q, _⟩ := q; rw [q]; simp [DitO]
  | ins c fs => obtain ⟨C, dx, gs, _, q, _⟩ := q; rw [q]; simp
  | exn c fs => cases k
  | lam => cases k
theorem getElem?_app {h : PH} {u o : PO} {i : Nat} (e : (h ++ [u])[i]? = some o) : (i < h.length ∧ h[i]? = some o) ∨ (i = h.length ∧ o = u) := by
  by_cases hl : i < h.length
  · rw [List.getElem?_append_left hl] at e
    exact .inl ⟨hl, e⟩
  · have hge : h.length ≤ i := Nat.le_of_not_lt hl
    rw [List.getElem?_append_right hge] at e
    have hz : i - h.length = 0 := by
      cases q : i - h.length with
      | zero => rfl
      | succ k => rw [q] at e; simp at e
    rw [hz] at e
    exact .inr ⟨by omega, by simpa using e.symm⟩
/-- an object of the store lies where a heap that agrees at it lies -/
theorem OR.keep {a : Addr} {o : PO} (q : OR K CT m N G H a o) (e : Ex m m' N) (l : N ≤ N') (t : Sub G G') (k : nk o = true → H' a = H a) : OR K CT m' N' G' H' a o := by
  cases o with
  | lst xs => obtain ⟨vs, q, r⟩ := q; exact ⟨vs, (k rfl).trans q, r.mono e l t⟩
  | frz xs =>
    obtain ⟨vs, q, r⟩ := q
    refine ⟨vs, ?_, r.mono e l t⟩
    rcases q with ⟨o, q⟩ | q
    · exact .inl ⟨o, t _ _ q⟩
    · exact .inr q
  | dic kvs => obtain ⟨vs, q, r⟩ := q; exact ⟨vs, (k rfl).trans q, r.mono e l t⟩
  | dit kvs => obtain ⟨vs, q, r⟩ := q; exact ⟨vs, (k rfl).trans q, r.mono e l t⟩
  | ldc kvs => obtain ⟨od, ks, q, r⟩ := q; exact ⟨od, ks, t _ _ q, r.mono e l t⟩
  | ldt kvs => obtain ⟨od, ks, q, r⟩ := q; exact ⟨od, ks, t _ _ q, r.mono e l t⟩
  | ins c fs => obtain ⟨C, dx, gs, ct, q, r⟩ := q; exact ⟨C, dx, gs, ct, (k rfl).trans q, r.mono e l t⟩
  | exn c fs => obtain ⟨C, d, ct, q, r⟩ := q; exact ⟨C, d, ct, t _ _ q, r.mono e l t⟩
  | lam => trivial
/-- a new object p; H' is H with p, and nothing else that matters -/
theorem HR.new (R : HR K CT m G H h) {p : Addr} {o : PO} (hp : H p = none) (keep : ∀ b, H b ≠ none → H' b = H b) (q : OR K CT (mx m h.length p) (h.length + 1) G H' p o) (ko : nk o = true) : HR K CT (mx m h.length p) G H' (h ++ [o]) := by
  have gp : G p = none := by
    cases e : G p with
    | none => rfl
    | some u => rw [R.sub p u e] at hp; cases hp
  refine ⟨fun i u e => ?_, fun i j oi oj ei ej ne ki kj => ?_, fun b u e => ?_, fun i u e k => ?_, R.xt.keep mx_ex (by simp) fun p ps e => (keep p (by rw [e]; simp)).trans e⟩
  · rw [List.length_append]
    rcases getElem?_app e with ⟨hl, e'⟩ | ⟨rfl, rfl⟩
    · rw [mx_old hl]
      exact (R.obj i u e').keep mx_ex (Nat.le_succ _) Sub.refl fun k => keep _ (R.nn e' k)
    · rw [mx_new]
      exact q
  · rcases getElem?_app ei with ⟨hi, ei'⟩ | ⟨rfl, rfl⟩ <;> rcases getElem?_app ej with ⟨hj, ej'⟩ | ⟨rfl, rfl⟩
    · rw [mx_old hi, mx_old hj]
      exact R.inj i j oi oj ei' ej' ne ki kj
    · rw [mx_old hi, mx_new]
      intro z
      exact R.nn ei' ki (by rw [z]; exact hp)
    · rw [mx_old hj, mx_new]
      intro z
      exact R.nn ej' kj (by rw [← z]; exact hp)
    · exact absurd rfl ne
  · have e' := R.sub b u e
    rw [keep b (by rw [e']; simp)]
    exact e'
  · rcases getElem?_app e with ⟨hl, e'⟩ | ⟨rfl, rfl⟩
    · rw [mx_old hl]
      exact R.dj i u e' k
    · rw [mx_new]
      exact gp
theorem keep_upd {p : Addr} {u : HO} (hp : H p = none) : ∀ b, H b ≠ none → upd H p u b = H b := fun b hb => upd_ne fun z => hb (by rw [z]; exact hp)
/-- a new tuple -/
theorem HR.newT (R : HR K CT m G H h) {p : Addr} {u : HO} (hp : H p = none) (hu : ∀ ps, u ≠ .tbl ps := by intro ps z; cases z) : HR K CT m (upd G p u) (upd H p u) h ∧ Sub G (upd G p u) := by
  have gp : G p = none := by
    cases e : G p with
    | none => rfl
    | some u => rw [R.sub p u e] at hp; cases hp
  have sg : Sub G (upd G p u) := fun b o e => by
    rw [upd_ne (fun z => by rw [z, gp] at e; cases e)]
    exact e
  refine ⟨⟨fun i o e => (R.obj i o e).keep Ex.refl (Nat.le_refl _) sg fun k => keep_upd hp _ (R.nn e k), R.inj, fun b o e => ?_, fun i o e k => ?_, R.xt.grow sg (fun q ps e => ?_) fun b ps e => ?_⟩, sg⟩
  · by_cases hb : b = p
    · subst hb
      rw [upd_same] at e ⊢
      exact e
    · rw [upd_ne hb] at e ⊢
      exact R.sub b o e
  · rw [upd_ne (fun z => R.nn e k (by rw [z]; exact hp))]
    exact R.dj i o e k
  · have ne : q ≠ p := fun z => by
      rw [z, hp] at e
      cases e
    rw [upd_ne ne, upd_ne ne]
    exact ⟨e, rfl⟩
  · by_cases hb : b = p
    · rw [hb, upd_same] at e
      exact hu ps (Option.some.inj e)
    · rw [upd_ne hb] at e
      exact R.xt.gt b ps e
/-- an object changes -/
theorem HR.put (R : HR K CT m G H h) {n : Nat} {o o' : PO} {u : HO} (e : h[n]? = some o) (k : nk o = true) (k' : nk o' = true) (q : ∀ H', H' (m n) = some u → OR K CT m h.length G H' (m n) o') : HR K CT m G (upd H (m n) u) (h.set n o') := by
  have hn : n < h.length := (List.getElem?_eq_some_iff.mp e).1
  have get : ∀ {i : Nat} {w : PO}, (h.set n o')[i]? = some w → (i = n ∧ w = o') ∨ (i ≠ n ∧ h[i]? = some w) := fun {i w} z => by
    by_cases hi : i = n
    · subst hi
      rw [List.getElem?_set_self hn] at z
      exact .inl ⟨rfl, by simpa using z.symm⟩
    · rw [List.getElem?_set_ne (fun z => hi z.symm)] at z
      exact .inr ⟨hi, z⟩
  have gn := R.dj n o e k
  refine ⟨fun i w ei => ?_, fun i j oi oj ei ej ne ki kj => ?_, fun b w eb => ?_, fun i w ei ki => ?_, R.xt.keep Ex.refl (by simp) fun p ps ep => (upd_ne fun z => ?_).trans ep⟩
  · rw [List.length_set]
    rcases get ei with ⟨rfl, rfl⟩ | ⟨hi, ei'⟩
    · exact q _ upd_same
    · exact (R.obj i w ei').keep Ex.refl (Nat.le_refl _) Sub.refl fun kw => upd_ne (R.inj i n w o ei' e hi kw k)
  · rcases get ei with ⟨rfl, rfl⟩ | ⟨hi, ei'⟩ <;> rcases get ej with ⟨rfl, rfl⟩ | ⟨hj, ej'⟩
    · exact absurd rfl ne
    · exact R.inj _ _ _ _ e ej' ne k kj
    · exact R.inj _ _ _ _ ei' e ne ki k
    · exact R.inj _ _ _ _ ei' ej' ne ki kj
  · rw [upd_ne (fun z => by rw [z, gn] at eb; cases eb)]
    exact R.sub b w eb
  · rcases get ei with ⟨rfl, rfl⟩ | ⟨hi, ei'⟩
    · exact gn
    · exact R.dj i w ei' ki
  · rw [z] at ep
    exact R.nt e k ep
end
end Mi
set_option Elab.async false
set_option linter.all false
set_option maxRecDepth 100000
namespace Mi
open PySem L2
/-- an exception: its class, its dict -/
def XR (K : PySem.W.Frag) (CT : Cts) (m : Nat → Addr) (N : Nat) (G : Hp) (x : PX) (cls : Value) (d : Option Addr) : Prop :=
  ∃ C, CT.exc x.cls C ∧ cls = .ref C ∧ ExF K m N G x.fs d
def Post {α β : Type} (K : PySem.W.Frag) (CT : Cts) (rel : (Nat → Addr) → Nat → Hp → α → β → Prop) (W : WX) (σ : St) (m : Nat → Addr) (G : Hp) (N : Nat) (Q : β → Hp → Prop) : R α → Prop
  | .ok a h' => ∀ m' G' H' b, Ex m m' N → Sub G G' → HR K CT m' G' H' h' → rel m' h'.length G' a b → Q b H'
  | .exc x h' => ∀ m' G' H' cls d, Ex m m' N → Sub G G' → HR K CT m' G' H' h' → XR K CT m' h'.length G' x cls d → W cls d σ H'
  | .bad => False
abbrev relB (_ : Nat → Addr) (_ : Nat) (_ : Hp) : Bool → Bool → Prop := fun a b => a = b
abbrev relO (_ : Nat → Addr) (_ : Nat) (_ : Hp) : Option Int → Option Int → Prop := fun a b => a = b
section
variable {K : PySem.W.Frag} {CT : Cts} {m m' m1 : Nat → Addr} {N N' : Nat} {G G' G1 H H' H1 : Hp} {h h' h1 : PH} {ρ ρ' : Env} {σ : St} {W : WX}
theorem SR.set {x : PV} {v : V} (s : SR K m N G ρ σ) (r : Rel K m N G x v) (i : Nat) : SR K m N G (ρ.set i (some x)) (σ.set i (some v)) := by
  refine ⟨by rw [List.length_set, List.length_set]; exact s.1, fun j y q => ?_⟩
  by_cases hj : i = j
  · subst hj
    by_cases hl : i < ρ.length
    · rw [List.getElem?_set_self hl] at q
      have e : x = y := by simpa using q
      subst e
      exact ⟨v, by rw [List.getElem?_set_self (by rw [← s.1]; exact hl)], r⟩
    · rw [List.getElem?_eq_none (by rw [List.length_set]; omega)] at q
      cases q
  · rw [List.getElem?_set_ne hj] at q ⊢
    exact s.2 j y q
theorem SR.none (s : SR K m N G ρ σ) (i : Nat) : SR K m N G (ρ.set i none) (σ.set i none) := by
  refine ⟨by rw [List.length_set, List.length_set]; exact s.1, fun j y q => ?_⟩
  by_cases hj : i = j
  · subst hj
    by_cases hl : i < ρ.length
    · rw [List.getElem?_set_self hl] at q
      cases q
    · rw [List.getElem?_eq_none (by rw [List.length_set]; omega)] at q
      cases q
  · rw [List.getElem?_set_ne hj] at q ⊢
    exact s.2 j y q
theorem Post.mono {α β : Type} {rel : (Nat → Addr) → Nat → Hp → α → β → Prop} {Q Q' : β → Hp → Prop} {r : R α} (p : Post K CT rel W σ m G N Q r) (q : ∀ b H, Q b H → Q' b H) : Post K CT rel W σ m G N Q' r := by
  cases r with
  | ok a h' => exact fun m' G' H' b e1 e2 e3 e4 => q _ _ (p m' G' H' b e1 e2 e3 e4)
  | exc x h' => exact p
  | bad => exact p
/-- later starts ask no more -/
theorem Post.later {α β : Type} {rel : (Nat → Addr) → Nat → Hp → α → β → Prop} {Q : β → Hp → Prop} {r : R α} (p : Post K CT rel W σ m G N Q r) (e : Ex m m1 N) (l : N ≤ N') (t : Sub G G1) : Post K CT rel W σ m1 G1 N' Q r := by
  cases r with
  | ok a h' => exact fun m' G' H' b e1 e2 e3 e4 => p m' G' H' b (e.trans e1 l) (t.trans e2) e3 e4
  | exc x h' => exact fun m' G' H' cls d e1 e2 e3 e4 => p m' G' H' cls d (e.trans e1 l) (t.trans e2) e3 e4
  | bad => exact p
theorem Post.bind {α β γ δ : Type} {rel1 : (Nat → Addr) → Nat → Hp → α → β → Prop} {rel2 : (Nat → Addr) → Nat → Hp → γ → δ → Prop} {Q : δ → Hp → Prop} {r : R α} {f : α → PH → R γ} (hg : Gro h r)
    (p : Post K CT rel2 W σ m G h.length Q (r.bind f)) :
    Post K CT rel1 W σ m G h.length (fun b H1 => ∃ a h1 m1 G1, Ex m m1 h.length ∧ Sub G G1 ∧ HR K CT m1 G1 H1 h1 ∧ rel1 m1 h1.length G1 a b ∧ h.length ≤ h1.length ∧ Post K CT rel2 W σ m1 G1 h1.length Q (f a h1)) r := by
  cases r with
  | ok a h' => exact fun m' G' H' b e1 e2 e3 e4 => ⟨a, h', m', G', e1, e2, e3, e4, hg, Post.later (r := f a h') p e1 hg e2⟩
  | exc x h' => exact p
  | bad => exact p
end
section
variable (K : PySem.W.Frag) (CT : Cts) (cl : Cl) (W : WX)
def tE (c : E) : TE := fun σ H Q => ∃ m G h ρ, HR K CT m G H h ∧ SR K m h.length G ρ σ ∧ Post K CT (Rel K) W σ m G h.length Q (ev cl c ρ h)
def tA (c : List E) : TA := fun σ H Q => ∃ m G h ρ, HR K CT m G H h ∧ SR K m h.length G ρ σ ∧ Post K CT (RelL K) W σ m G h.length Q (evs cl c ρ h)
def tT (c : E) : TT := fun σ H Q => ∃ m G h ρ, HR K CT m G H h ∧ SR K m h.length G ρ σ ∧ Post K CT relB W σ m G h.length Q (tst cl c ρ h)
def tO (c : Option E) : TO := fun σ H Q => ∃ m G h ρ, HR K CT m G H h ∧ SR K m h.length G ρ σ ∧ Post K CT relO W σ m G h.length Q (evo cl c ρ h)
end
theorem PEimp {X : Cx} {e : Expr} {t t' : TE} (p : PE X e t) (i : ∀ σ H Q, t' σ H Q → t σ H Q) : PE X e t' := ⟨fun pins s σ H Q I h => p.run pins s σ H Q I (i σ H Q h)⟩
theorem PTimp {X : Cx} {e : Expr} {t t' : TT} (p : PT X e t) (i : ∀ σ H Q, t' σ H Q → t σ H Q) : PT X e t' := ⟨fun pins s σ H Q I h => p.run pins s σ H Q I (i σ H Q h)⟩
theorem PAimp {X : Cx} {e : List Expr} {t t' : TA} (p : PA X e t) (i : ∀ σ H Q, t' σ H Q → t σ H Q) : PA X e t' := ⟨fun pos pins s σ H Q I h => p.run pos pins s σ H Q I (i σ H Q h)⟩
theorem PSimp {X : Cx} {e : Stmt} {t t' : TS} (p : PS X e t) (i : ∀ D σ H, t' D σ H → t D σ H) : PS X e t' := ⟨fun pins s σ H D I h => p.run pins s σ H D I (i D σ H h)⟩
section
variable {K : PySem.W.Frag} {CT : Cts} {cl : Cl} {W : WX} {m : Nat → Addr} {N : Nat} {G H : Hp} {h : PH} {ρ : Env} {σ : St}
/-- a sub-expression first -/
theorem tE_first {c : E} {γ δ : Type} {rel2 : (Nat → Addr) → Nat → Hp → γ → δ → Prop} {Q : δ → Hp → Prop} {Q1 : VK} {f : PV → PH → R γ} (hc : GroC cl) (R : HR K CT m G H h) (s : SR K m h.length G ρ σ)
    (p : Post K CT rel2 W σ m G h.length Q ((ev cl c ρ h).bind f))
    (k : ∀ x v h1 m1 G1 H1, Ex m m1 h.length → Sub G G1 → h.length ≤ h1.length → HR K CT m1 G1 H1 h1 → SR K m1 h1.length G1 ρ σ → Rel K m1 h1.length G1 x v → Post K CT rel2 W σ m1 G1 h1.length Q (f x h1) → Q1 v H1) : tE K CT cl W c σ H Q1 :=
  ⟨m, G, h, ρ, R, s, (Post.bind (ev_gro hc c ρ h) p).mono fun v H1 ⟨x, h1, m1, G1, e1, e2, e3, e4, e5, e6⟩ => k x v h1 m1 G1 H1 e1 e2 e5 e3 (s.mono e1 e5 e2) e4 e6⟩
theorem tA_first {c : List E} {γ δ : Type} {rel2 : (Nat → Addr) → Nat → Hp → γ → δ → Prop} {Q : δ → Hp → Prop} {Q1 : List V → Hp → Prop} {f : List PV → PH → R γ} (hc : GroC cl) (R : HR K CT m G H h) (s : SR K m h.length G ρ σ)
    (p : Post K CT rel2 W σ m G h.length Q ((evs cl c ρ h).bind f))
    (k : ∀ x v h1 m1 G1 H1, Ex m m1 h.length → Sub G G1 → h.length ≤ h1.length → HR K CT m1 G1 H1 h1 → SR K m1 h1.length G1 ρ σ → RelL K m1 h1.length G1 x v → Post K CT rel2 W σ m1 G1 h1.length Q (f x h1) → Q1 v H1) : tA K CT cl W c σ H Q1 :=
  ⟨m, G, h, ρ, R, s, (Post.bind (evs_gro hc c ρ h) p).mono fun v H1 ⟨x, h1, m1, G1, e1, e2, e3, e4, e5, e6⟩ => k x v h1 m1 G1 H1 e1 e2 e5 e3 (s.mono e1 e5 e2) e4 e6⟩
theorem tT_first {c : E} {γ δ : Type} {rel2 : (Nat → Addr) → Nat → Hp → γ → δ → Prop} {Q : δ → Hp → Prop} {Q1 : Bool → Hp → Prop} {f : Bool → PH → R γ} (hc : GroC cl) (R : HR K CT m G H h) (s : SR K m h.length G ρ σ)
    (p : Post K CT rel2 W σ m G h.length Q ((tst cl c ρ h).bind f))
    (k : ∀ b h1 m1 G1 H1, Ex m m1 h.length → Sub G G1 → h.length ≤ h1.length → HR K CT m1 G1 H1 h1 → SR K m1 h1.length G1 ρ σ → Post K CT rel2 W σ m1 G1 h1.length Q (f b h1) → Q1 b H1) : tT K CT cl W c σ H Q1 :=
  ⟨m, G, h, ρ, R, s, (Post.bind (tst_gro hc c ρ h) p).mono fun v H1 ⟨x, h1, m1, G1, e1, e2, e3, e4, e5, e6⟩ => by
    have e : x = v := e4
    subst e
    exact k x h1 m1 G1 H1 e1 e2 e5 e3 (s.mono e1 e5 e2) e6⟩
theorem tO_first {c : Option E} {γ δ : Type} {rel2 : (Nat → Addr) → Nat → Hp → γ → δ → Prop} {Q : δ → Hp → Prop} {Q1 : Option Int → Hp → Prop} {f : Option Int → PH → R γ} (hc : GroC cl) (R : HR K CT m G H h) (s : SR K m h.length G ρ σ)
    (p : Post K CT rel2 W σ m G h.length Q ((evo cl c ρ h).bind f))
    (k : ∀ b h1 m1 G1 H1, Ex m m1 h.length → Sub G G1 → h.length ≤ h1.length → HR K CT m1 G1 H1 h1 → SR K m1 h1.length G1 ρ σ → Post K CT rel2 W σ m1 G1 h1.length Q (f b h1) → Q1 b H1) : tO K CT cl W c σ H Q1 :=
  ⟨m, G, h, ρ, R, s, (Post.bind (evo_gro hc c ρ h) p).mono fun v H1 ⟨x, h1, m1, G1, e1, e2, e3, e4, e5, e6⟩ => by
    have e : x = v := e4
    subst e
    exact k x h1 m1 G1 H1 e1 e2 e5 e3 (s.mono e1 e5 e2) e6⟩
end
section
variable {X : Cx} {CT : Cts} {cl : Cl} {W : WX}
theorem I_var (i : Nat) {x : Str} {pos : Pos} (hN : X.N[i]? = some x) (hv : Vis X.env.scope x) (hd : (x == ("__debug__" : Str)) = false) (hcd : (x == ("__classdict__" : Str)) = false) : PE X (.Name x pos) (tE X.K CT cl W (.v i)) :=
  PEimp (pe_var hN hv hd hcd) fun σ H Q ⟨m, G, h, ρ, R, s, p⟩ => by
    simp only [ev] at p
    split at p
    · rename_i v e
      obtain ⟨u, hu, r⟩ := s.2 i v e
      exact ⟨u, hu, p m G H u Ex.refl Sub.refl R r⟩
    · exact p.elim
/-- a constant that needs no object -/
theorem I_k {e : Expr} {c : PV} {v : V} (p : PE X e (tC v)) (r : ∀ m N G, Rel X.K m N G c v) : PE X e (tE X.K CT cl W (.k c)) :=
  PEimp p fun σ H Q ⟨m, G, h, ρ, R, s, q⟩ => by
    simp only [ev] at q
    exact q m G H v Ex.refl Sub.refl R (r _ _ _)
theorem I_int {i j pos} : PE X (.Constant (.int i) j pos) (tE X.K CT cl W (.k (.int i))) := I_k pe_int fun _ _ _ => .int i
theorem I_bl {i j pos} : PE X (.Constant (.bool i) j pos) (tE X.K CT cl W (.k (.bl i))) := I_k pe_bl fun _ _ _ => .bl i
theorem I_non {j pos} : PE X (.Constant .none j pos) (tE X.K CT cl W (.k .non)) := I_k pe_non fun _ _ _ => .non
theorem I_str {x : Str} {s : List Char} {j pos} (e : x = S2 s) : PE X (.Constant (.str x) j pos) (tE X.K CT cl W (.k (.str s))) := by
  subst e
  exact I_k pe_str fun _ _ _ => .str s
/-- a constant of the module that needs no object -/
theorem I_gint {x : Str} {i : Int} {u : Value} {pos : Pos} (hg : Gl X x) (hm : X.mg x = some u) (hu : ∃ t, u = .int i t) (hd : (x == ("__debug__" : Str)) = false) : PE X (.Name x pos) (tE X.K CT cl W (.k (.int i))) :=
  I_k (pe_glob (v := .int i) hg hm hu hd) fun _ _ _ => .int i
theorem I_gstr {x z : Str} {s : List Char} {u : Value} {pos : Pos} (e : z = S2 s) (hg : Gl X x) (hm : X.mg x = some u) (hu : ∃ t, u = .str z t) (hd : (x == ("__debug__" : Str)) = false) : PE X (.Name x pos) (tE X.K CT cl W (.k (.str s))) := by
  subst e
  exact I_k (pe_glob (v := .str (S2 s)) hg hm hu hd) fun _ _ _ => .str s
end
end Mi
set_option Elab.async false
set_option linter.all false
set_option maxRecDepth 100000
namespace Mi
open PySem L2
theorem szl_eq : szl = sizeLine := by rw [sizeLine_eq]; rfl
section
variable {K : PySem.W.Frag} {CT : Cts} {W : WX} {m : Nat → Addr} {N : Nat} {G H : Hp} {h : PH} {σ : St}
theorem Rel.int_inv {i : Int} {v : V} (r : Rel K m N G (.int i) v) : v = .int i := by cases r; rfl
theorem Rel.bl_inv {b : Bool} {v : V} (r : Rel K m N G (.bl b) v) : v = .bl b := by cases r; rfl
theorem Rel.non_inv {v : V} (r : Rel K m N G .non v) : v = .non := by cases r; rfl
theorem Rel.str_inv {s : List Char} {v : V} (r : Rel K m N G (.str s) v) : v = .str (S2 s) := by cases r; rfl
theorem Rel.ref_inv {n : Nat} {v : V} (r : Rel K m N G (.ref n) v) : v = .ref (m n) ∧ n < N := by cases r with | ref h => exact ⟨rfl, h⟩
theorem Rel.tup_inv {xs : List PV} {v : V} (r : Rel K m N G (.tup xs) v) : ∃ a vs, v = .ref a ∧ SqT K G a vs ∧ RelL K m N G xs vs := by cases r with | tup h q => exact ⟨_, _, rfl, h, q⟩
theorem HR.lst (R : HR K CT m G H h) {n : Nat} {xs : List PV} (e : h[n]? = some (.lst xs)) : ∃ vs, H (m n) = some (.lst vs) ∧ RelL K m h.length G xs vs := R.obj n _ e
theorem HR.frz (R : HR K CT m G H h) {n : Nat} {xs : List PV} (e : h[n]? = some (.frz xs)) : ∃ vs, SqL K H (m n) vs ∧ RelL K m h.length G xs vs := by
  obtain ⟨vs, q, r⟩ := R.obj n _ e
  refine ⟨vs, ?_, r⟩
  rcases q with ⟨o, q⟩ | q
  · exact .inl (.inr ⟨o, R.sub _ _ q⟩)
  · exact .inr q
theorem HR.dic (R : HR K CT m G H h) {n : Nat} {xs : List (PV × PV)} (e : h[n]? = some (.dic xs)) : ∃ ks, H (m n) = some (.dK ks) ∧ RelD K m h.length G xs ks := R.obj n _ e
theorem HR.ins (R : HR K CT m G H h) {n : Nat} {c : String} {fs : List (String × PV)} (e : h[n]? = some (.ins c fs)) : ∃ C dx gs, CT.ins c C ∧ H (m n) = some (.ins C dx gs) ∧ RelF K m h.length G fs gs := R.obj n _ e
theorem HR.lt {n : Nat} {o : PO} (e : h[n]? = some o) : n < h.length := (List.getElem?_eq_some_iff.mp e).1
/-- a new list of the store -/
theorem Post.newL {Q : VK} (p : Post K CT (Rel K) W σ m G h.length Q (.ok (.ref h.length) (h ++ [.lst xs]))) (R : HR K CT m G H h) {vs : List V} (r : RelL K m h.length G xs vs) {a : Addr} (ha : H a = none) : Q (.ref a) (upd H a (.lst vs)) := by
  have R' := R.new (o := .lst xs) ha (keep_upd ha) ⟨vs, upd_same, r.mono mx_ex (Nat.le_succ _) Sub.refl⟩ rfl
  have q : Rel K (mx m h.length a) (h ++ [PO.lst xs]).length G (.ref h.length) (.ref (mx m h.length a h.length)) := .ref (by rw [List.length_append]; simp)
  rw [mx_new] at q
  exact p _ G _ _ mx_ex Sub.refl R' q
/-- a new tuple -/
theorem Post.newT {Q : VK} {xs : List PV} (p : Post K CT (Rel K) W σ m G h.length Q (.ok (.tup xs) h)) (R : HR K CT m G H h) {vs : List V} (r : RelL K m h.length G xs vs) {a : Addr} (ha : H a = none) : Q (.ref a) (upd H a (.tup vs)) := by
  obtain ⟨R', sg⟩ := R.newT (u := .tup vs) ha
  exact p m _ _ _ Ex.refl sg R' (.tup (.inl (.inl upd_same)) (r.mono Ex.refl (Nat.le_refl _) sg))
theorem Post.now {α β : Type} {rel : (Nat → Addr) → Nat → Hp → α → β → Prop} {Q : β → Hp → Prop} {a : α} {b : β} (p : Post K CT rel W σ m G h.length Q (.ok a h)) (R : HR K CT m G H h) (r : rel m h.length G a b) : Q b H := p m G H b Ex.refl Sub.refl R r
end
def rB (K : PySem.W.Frag) (CT : Cts) (W : WX) (o : BOp) : R2 := fun x y H Q => ∃ m G h px py σ, HR K CT m G H h ∧ Rel K m h.length G px x ∧ Rel K m h.length G py y ∧ Post K CT (Rel K) W σ m G h.length Q (bopV o px py h)
theorem flat_rep {α : Type} (x : Array α) : ∀ (n : Nat) (acc : Array α), (List.replicate n x).foldl (· ++ ·) acc = acc ++ ((List.replicate n x.toList).flatten).toArray
  | 0, acc => by simp
  | n + 1, acc => by
    rw [List.replicate_succ, List.foldl_cons, flat_rep x n, List.replicate_succ, List.flatten_cons]
    apply Array.ext'
    simp
theorem mul_text (a : List Nat) (k : Int) : Txt.mul ⟨a.toArray⟩ k = ⟨((List.replicate k.toNat a).flatten).toArray⟩ := by
  unfold Txt.mul
  by_cases h1 : k < 1
  · rw [if_pos h1, show k.toNat = 0 by omega]
    rfl
  · rw [if_neg h1]
    by_cases h2 : (k == 1 || (Str.mk a.toArray).length == 0) = true
    · rw [if_pos h2]
      rw [Bool.or_eq_true, beq_iff_eq, beq_iff_eq] at h2
      rcases h2 with h2 | h2
      · rw [show k.toNat = 1 by omega]
        simp
      · have e : a = [] := by
          have : a.toArray.size = 0 := h2
          simpa using this
        subst e
        have z : ∀ n : Nat, (List.replicate n ([] : List Nat)).flatten = [] := fun n => by
          induction n with
          | zero => rfl
          | succ n ih => rw [List.replicate_succ, List.flatten_cons, ih]; rfl
        rw [z]
    · rw [if_neg h2, flat_rep, Array.empty_append]
section
variable {X : Cx} {CT : Cts} {W : WX}
theorem op_strmul : OpR X (binaryOp .Mult) (fun x y H Q => ∃ (a : List Nat) (k : Int), x = .str ⟨a.toArray⟩ ∧ y = .int k ∧ (-16777216 ≤ k ∧ k ≤ 16777216 ∧ a.length * k.toNat ≤ szl) ∧ Q (.str ⟨((List.replicate k.toNat a).flatten).toArray⟩) H) := by
  intro pins s σ H x y v u Q I rx ry h
  obtain ⟨a, k, rfl, rfl, ⟨h1, h2, h3⟩, q⟩ := h
  obtain ⟨t, rfl⟩ := rx
  obtain ⟨t', rfl⟩ := ry
  have hl : (Str.mk a.toArray).length = a.length := by simp [Str.length]
  refine SB.mul ⟨by rw [Bool.or_eq_false_iff, decide_eq_false_iff_not, decide_eq_false_iff_not]; omega, fun g1 _ => ?_, fun g1 _ => ?_⟩ fun t'' k'' => ?_
  · rw [hl]
    have h3' : a.length * k.toNat ≤ 16777216 := h3
    have hz : (a.length : Int) * k ≤ 16777216 := by
      have q : ((a.length * k.toNat : Nat) : Int) ≤ 16777216 := Int.ofNat_le.mpr h3'
      rw [Int.natCast_mul, Int.toNat_of_nonneg (by omega)] at q
      exact q
    have hp : 0 < k := by omega
    intro hh
    have h5 : ((2 : Int) ^ 63 - 1) / k < a.length := hh
    have h6 := Int.lt_mul_of_ediv_lt hp h5
    omega
  · rw [hl]
    unfold Builtin.Str.tooLong
    rw [decide_eq_false_iff_not]
    rw [← szl_eq]
    omega
  · rw [mul_text]
    exact ⟨.str _, H, I.tok _, ⟨_, rfl⟩, q⟩
end
end Mi
set_option Elab.async false
set_option linter.all false
set_option maxRecDepth 100000
namespace Mi
open PySem PySem.Spec PyProof.Rows L2
theorem dict_no_str (d : Addr) (es : Array DictEntry) (ep : Nat) (dd : Option Addr) (sl : Array (Option Value)) (b : Str) (u : Tok) :
    Meets (Builtin.«dict.__eq__» ⟨[.ref d, .str b u], []⟩) (fun _ R s => s.heap.get? d = some { cls := .type "dict", dict := dd, data := .dict es ep, slots := sl } ∧ R (.ok (.ret .notImplemented)) s) :=
  .of_wp fun prog w A R s h => by
    obtain ⟨hp, g, dr, tk, os⟩ := s
    obtain ⟨hd, h⟩ := h
    have f1 := PySem.F.sub_str_dict
    wp_walk using wpAny_load hd
    exact ⟨_, rfl, h⟩
theorem str_no_dict (b : Str) (u : Tok) (d : Addr) (es : Array DictEntry) (ep : Nat) (dd : Option Addr) (sl : Array (Option Value)) :
    Meets (Builtin.«str.__eq__» ⟨[.str b u, .ref d], []⟩) (fun _ R s => s.heap.get? d = some { cls := .type "dict", dict := dd, data := .dict es ep, slots := sl } ∧ R (.ok (.ret .notImplemented)) s) :=
  .of_wp fun prog w A R s h => by
    obtain ⟨hp, g, dr, tk, os⟩ := s
    obtain ⟨hd, h⟩ := h
    wp_walk using wpAny_load hd
    exact ⟨_, rfl, h⟩
theorem str_ne_dict (b : Str) (u : Tok) (d : Addr) (es : Array DictEntry) (ep : Nat) (dd : Option Addr) (sl : Array (Option Value)) :
    Meets (Builtin.«str.__ne__» ⟨[.str b u, .ref d], []⟩) (fun _ R s => s.heap.get? d = some { cls := .type "dict", dict := dd, data := .dict es ep, slots := sl } ∧ R (.ok (.ret .notImplemented)) s) :=
  .of_wp fun prog w A R s h => by
    obtain ⟨hp, g, dr, tk, os⟩ := s
    obtain ⟨hd, h⟩ := h
    wp_walk using wpAny_load hd
    exact ⟨_, rfl, h⟩
theorem dict_ne_str (d : Addr) (es : Array DictEntry) (ep : Nat) (dd : Option Addr) (sl : Array (Option Value)) (b : Str) (u : Tok) :
    Meets (Builtin.«dict.__ne__» ⟨[.ref d, .str b u], []⟩) (fun _ R s => s.heap.get? d = some { cls := .type "dict", dict := dd, data := .dict es ep, slots := sl } ∧ R (.ok (.ret .notImplemented)) s) :=
  .of_wp fun prog w A R s h => by
    obtain ⟨hp, g, dr, tk, os⟩ := s
    obtain ⟨hd, h⟩ := h
    have f1 := PySem.F.sub_str_dict
    wp_walk using wpAny_load hd
    exact ⟨_, rfl, h⟩
section
variable {X : Cx}
def rDS (K : PySem.W.Frag) (b : Bool) : R2 := fun x y H Q => ∃ a t, x = V.ref a ∧ y = V.str t ∧ ((∃ kvs, H a = some (.dK kvs)) ∨ (∃ xs, SqL K H a xs) ∨ ∃ xs, SqT K H a xs) ∧ Q (.bl b) H
theorem dict_obj {pins : List (Addr × Obj)} {σ : L2.St} {H : Hp} {s : Shared} {a : Addr} {kvs : List (Key × V)} (I : Inv X pins σ H s) (e : H a = some (.dK kvs)) : ∃ es ep dd sl, s.heap.get? a = some { cls := .type "dict", dict := dd, data := .dict es ep, slots := sl } := by
  obtain ⟨_, _, vs, _, o, es, ep, h1, h2, h3, _⟩ := I.hok a _ e
  obtain ⟨c, dd, dt, sl⟩ := o
  have e1 : c = .type "dict" := h2.1
  have e2 : dt = .dict es ep := h3
  subst e1 e2
  exact ⟨es, ep, dd, sl, h1⟩
theorem op_eq_ds (hu : X.A.units < cLine) : OpR X (compareOp .Eq) (rDS X.K false) := by
  rintro pins s σ H x y v u Q I rx ry ⟨a, t, rfl, rfl, h, q⟩
  cases rx
  obtain ⟨tk, rfl⟩ := ry
  rcases h with ⟨kvs, ea⟩ | ⟨xs, ea⟩ | ⟨xs, ea⟩
  · obtain ⟨es, ep, dd, sl, ho⟩ := dict_obj I ea
    exact SeqAt.rc_eq_decline_or (k := false) ⟨_, ho, rfl⟩ (typeIs_str s t tk) (by decide) PySem.F.sub_str_dict PySem.F.slot_dict_eq PySem.F.slot_str_eq_refl
      (fun _ hq => call_meets PySem.F.slot_dict_eq ⟨_, ho, rfl⟩ PySem.F.entry_dict_eq (PySem.F.args_dict_eq_2 _ _) (dict_no_str a es ep dd sl t tk) ⟨ho, hq⟩)
      (fun _ hq => call_meets PySem.F.slot_str_eq_refl (typeIs_str s t tk) PySem.F.entry_str_eq (PySem.F.args_str_eq_2 _ _) (str_no_dict t tk a es ep dd sl) ⟨ho, hq⟩)
      (fun _ hq => wpAny_of_eq (rfl : isSame (.ref a) (.str t tk) = pure false) hq) (.inr hu) ⟨.bl false, H, I, rfl, q⟩
  · obtain ⟨its, _, pl, _⟩ := I.list ea
    exact SeqAt.RcAt.list_str t tk pl.isList hu _ _ _ _ ⟨.bl false, H, I, rfl, q⟩
  · obtain ⟨its, _, pl, _⟩ := I.tuple ea
    exact SeqAt.RcAt.tuple_str t tk pl hu _ _ _ _ ⟨.bl false, H, I, rfl, q⟩
theorem op_ne_ds (hu : X.A.units < cLine) : OpR X (compareOp .NotEq) (rDS X.K true) := by
  rintro pins s σ H x y v u Q I rx ry ⟨a, t, rfl, rfl, h, q⟩
  cases rx
  obtain ⟨tk, rfl⟩ := ry
  rcases h with ⟨kvs, ea⟩ | ⟨xs, ea⟩ | ⟨xs, ea⟩
  · obtain ⟨es, ep, dd, sl, ho⟩ := dict_obj I ea
    exact SeqAt.rc_ne_decline_or (k := false) ⟨_, ho, rfl⟩ (typeIs_str s t tk) (by decide) PySem.F.sub_str_dict PySem.F.slot_dict_ne PySem.F.slot_str_ne_refl
      (fun _ hq => call_meets PySem.F.slot_dict_ne ⟨_, ho, rfl⟩ PySem.F.entry_dict_ne (PySem.F.args_dict_ne_2 _ _) (dict_ne_str a es ep dd sl t tk) ⟨ho, hq⟩)
      (fun _ hq => call_meets PySem.F.slot_str_ne_refl (typeIs_str s t tk) PySem.F.entry_str_ne (PySem.F.args_str_ne_2 _ _) (str_ne_dict t tk a es ep dd sl) ⟨ho, hq⟩)
      (fun _ hq => wpAny_of_eq (rfl : isSame (.ref a) (.str t tk) = pure false) hq) (.inr hu) ⟨.bl true, H, I, rfl, q⟩
  · obtain ⟨its, _, pl, _⟩ := I.list ea
    exact SeqAt.RcNeAt.list_str t tk pl.isList hu _ _ _ _ ⟨.bl true, H, I, rfl, q⟩
  · obtain ⟨its, _, pl, _⟩ := I.tuple ea
    exact SeqAt.RcNeAt.tuple_str t tk pl hu _ _ _ _ ⟨.bl true, H, I, rfl, q⟩
/-- two lists, or two tuples, one of them empty -/
def rEm (K : PySem.W.Frag) (f : Bool → Bool) : R2 := fun x y H Q => ∃ a b xs ys, x = V.ref a ∧ y = V.ref b ∧ ((SqL K H a xs ∧ SqL K H b ys) ∨ (SqT K H a xs ∧ SqT K H b ys)) ∧ (xs = [] ∨ ys = []) ∧ Q (.bl (f (xs.isEmpty && ys.isEmpty))) H
theorem em_size {xs : List V} {its : List Value} (r : Vals xs its) : its.toArray.size = xs.length := by
  have := r.length
  simpa using this.symm
theorem em_eq {xs ys : List V} (h : xs = [] ∨ ys = []) : (xs.length == ys.length) = (xs.isEmpty && ys.isEmpty) := by
  rcases h with rfl | rfl
  · cases ys <;> simp
  · cases xs <;> simp
theorem op_eq_em (hu : X.A.units < cLine) : OpR X (compareOp .Eq) (rEm X.K fun b => b) := by
  rintro pins s σ H x y v u Q I rx ry ⟨a, b, xs, ys, rfl, rfl, h, hz, q⟩
  cases rx
  cases ry
  rcases h with ⟨ha, hb⟩ | ⟨ha, hb⟩
  · obtain ⟨i1, r1, p1, _⟩ := I.list ha
    obtain ⟨i2, r2, p2, _⟩ := I.list hb
    have z1 := em_size r1
    have z2 := em_size r2
    by_cases hs : i1.toArray.size = i2.toArray.size
    · have e1 : i1.toArray.size = 0 := by
        rcases hz with rfl | rfl
        · simpa using z1
        · rw [hs]; simpa using z2
      have e2 : (xs.isEmpty && ys.isEmpty) = true := by
        rw [← em_eq hz, ← z1, ← z2, hs]
        exact beq_self_eq_true _
      refine SeqAt.RcAt.lists (e := fun _ => true) p1.isList p2.isList hs hu (fun j h1 => absurd h1 (by omega)) _ _ _ _ ⟨.bl _, H, I, rfl, ?_⟩
      rw [e1]
      rw [e2] at q
      exact q
    · have e2 : (xs.isEmpty && ys.isEmpty) = false := by
        rw [← em_eq hz, ← z1, ← z2]
        exact beq_eq_false_iff_ne.mpr hs
      refine SeqAt.RcAt.lists_lengths p1.isList p2.isList (by simpa using hs) hu _ _ _ _ ⟨.bl _, H, I, rfl, ?_⟩
      rw [e2] at q
      exact q
  · obtain ⟨i1, r1, p1, _⟩ := I.tuple ha
    obtain ⟨i2, r2, p2, _⟩ := I.tuple hb
    have z1 := em_size r1
    have z2 := em_size r2
    have e0 : min i1.toArray.size i2.toArray.size = 0 := by
      rcases hz with rfl | rfl
      · rw [z1]; simp
      · rw [z2]; simp
    refine SeqAt.RcAt.tuples (e := fun _ => true) p1 p2 hu (fun j h1 h2 => absurd e0 (by omega)) _ _ _ _ ⟨.bl _, H, I, rfl, ?_⟩
    rw [e0, z1, z2]
    rw [← em_eq hz] at q
    exact q
theorem op_ne_em (hu : X.A.units < cLine) : OpR X (compareOp .NotEq) (rEm X.K fun b => !b) := by
  rintro pins s σ H x y v u Q I rx ry ⟨a, b, xs, ys, rfl, rfl, h, hz, q⟩
  cases rx
  cases ry
  rcases h with ⟨ha, hb⟩ | ⟨ha, hb⟩
  · obtain ⟨i1, r1, p1, _⟩ := I.list ha
    obtain ⟨i2, r2, p2, _⟩ := I.list hb
    have z1 := em_size r1
    have z2 := em_size r2
    by_cases hs : i1.toArray.size = i2.toArray.size
    · have e1 : i1.toArray.size = 0 := by
        rcases hz with rfl | rfl
        · simpa using z1
        · rw [hs]; simpa using z2
      have e2 : (xs.isEmpty && ys.isEmpty) = true := by
        rw [← em_eq hz, ← z1, ← z2, hs]
        exact beq_self_eq_true _
      refine SeqAt.RcNeAt.lists (e := fun _ => true) p1.isList p2.isList hs hu (fun j h1 => absurd h1 (by omega)) _ _ _ _ ⟨.bl _, H, I, rfl, ?_⟩
      rw [e1]
      rw [e2] at q
      exact q
    · have e2 : (xs.isEmpty && ys.isEmpty) = false := by
        rw [← em_eq hz, ← z1, ← z2]
        exact beq_eq_false_iff_ne.mpr hs
      refine SeqAt.RcNeAt.lists_lengths p1.isList p2.isList (by simpa using hs) hu _ _ _ _ ⟨.bl _, H, I, rfl, ?_⟩
      rw [e2] at q
      exact q
  · obtain ⟨i1, r1, p1, _⟩ := I.tuple ha
    obtain ⟨i2, r2, p2, _⟩ := I.tuple hb
    have z1 := em_size r1
    have z2 := em_size r2
    have e0 : min i1.toArray.size i2.toArray.size = 0 := by
      rcases hz with rfl | rfl
      · rw [z1]; simp
      · rw [z2]; simp
    refine SeqAt.RcNeAt.tuples (e := fun _ => true) p1 p2 hu (fun j h1 h2 => absurd e0 (by omega)) _ _ _ _ ⟨.bl _, H, I, rfl, ?_⟩
    rw [e0, z1, z2]
    rw [← em_eq hz] at q
    exact q
end
end Mi
set_option Elab.async false
set_option linter.all false
set_option maxRecDepth 100000
namespace Mi
open PySem L2
theorem toNat_inj {a b : Char} (h : a.toNat = b.toNat) : a = b := Char.toNat_inj.mp h
theorem map_inj : ∀ {a b : List Char}, a.map Char.toNat = b.map Char.toNat → a = b
  | [], [], _ => rfl
  | [], _ :: _, h => by simp at h
  | _ :: _, [], h => by simp at h
  | x :: r, y :: t, h => by
    rw [List.map_cons, List.map_cons] at h
    injection h with h1 h2
    rw [toNat_inj h1, map_inj h2]
theorem S2_inj {a b : List Char} (h : S2 a = S2 b) : a = b := by
  have h1 : (a.map Char.toNat).toArray = (b.map Char.toNat).toArray := congrArg Str.cps h
  exact map_inj (by simpa using h1)
theorem S2_eq {a b : List Char} : (S2 a = S2 b) = (a = b) := propext ⟨S2_inj, fun h => by rw [h]⟩
theorem S2_len {a : List Char} : (S2 a).length = a.length := by simp [Str.length]
theorem S2_cps {a : List Char} : (S2 a).cps.toList = a.map Char.toNat := by simp
theorem S2_app {a b : List Char} : S2 a ++ S2 b = S2 (a ++ b) := by
  show Str.append _ _ = _
  unfold Str.append
  simp
theorem S2_ofString (s : String) : Str.ofString s = S2 s.toList := Str.ofString_eq_toList s
theorem ofString_inj {a b : String} (h : Str.ofString a = Str.ofString b) : a = b := by
  rw [S2_ofString, S2_ofString] at h
  exact String.toList_inj.mp (S2_inj h)
mutual
def toPy : D → PyData
  | .non => .none
  | .bl b => .bool b
  | .int i => .int i
  | .str s => .str (S2 s)
  | .lst xs => .list (toPys xs)
  | .tup xs => .tuple (toPys xs)
def toPys : List D → List PyData
  | [] => []
  | x :: r => toPy x :: toPys r
end
theorem char_lt (c : Char) : c.toNat < 1114112 := by
  have h := c.valid
  have e : c.toNat = c.val.toNat := rfl
  simp only [UInt32.isValidChar, Nat.isValidChar] at h
  omega
mutual
theorem toPy_lay : ∀ d : D, (toPy d).canLay0 = true
  | .non => by simp [toPy, PyData.canLay0]
  | .bl b => by simp [toPy, PyData.canLay0]
  | .int i => by simp [toPy, PyData.canLay0]
  | .str s => by
    simp only [toPy, PyData.canLay0, PyData.strOk]
    rw [← Array.all_toList, List.all_eq_true]
    intro x hx
    have hx : x ∈ s.map Char.toNat := by simpa using hx
    obtain ⟨c, _, rfl⟩ := List.mem_map.mp hx
    exact decide_eq_true (char_lt c)
  | .lst xs => by simp only [toPy, PyData.canLay0]; exact toPys_lay xs
  | .tup xs => by simp only [toPy, PyData.canLay0]; exact toPys_lay xs
theorem toPys_lay : ∀ d : List D, PyData.canLayAll0 (toPys d) = true
  | [] => by simp [toPys, PyData.canLayAll0]
  | x :: r => by simp only [toPys, PyData.canLayAll0, toPy_lay x, toPys_lay r]; rfl
end
theorem str_beqS (a b : List Char) : ((S2 a == S2 b) : Bool) = (a == b) := by
  rw [Bool.eq_iff_iff, beq_iff_eq, beq_iff_eq, S2_eq]
mutual
theorem toPy_eqv : ∀ a b : D, PyData.eqv (toPy a) (toPy b) = D.eqv a b
  | .non, b => by cases b <;> simp [toPy, PyData.eqv, D.eqv]
  | .bl x, b => by cases b <;> simp [toPy, PyData.eqv, D.eqv]
  | .int x, b => by cases b <;> simp [toPy, PyData.eqv, D.eqv]
  | .str x, b => by
    cases b with
    | str y => simp only [toPy, PyData.eqv, D.eqv]; exact str_beqS x y
    | _ => simp [toPy, PyData.eqv, D.eqv]
  | .lst x, b => by
    cases b with
    | lst y => simp only [toPy, PyData.eqv, D.eqv]; exact toPys_eqv x y
    | _ => simp [toPy, PyData.eqv, D.eqv]
  | .tup x, b => by
    cases b with
    | tup y => simp only [toPy, PyData.eqv, D.eqv]; exact toPys_eqv x y
    | _ => simp [toPy, PyData.eqv, D.eqv]
theorem toPys_eqv : ∀ a b : List D, PyData.eqvAll (toPys a) (toPys b) = D.eqvs a b
  | [], [] => by simp [toPys, PyData.eqvAll, D.eqvs]
  | [], _ :: _ => by simp [toPys, PyData.eqvAll, D.eqvs]
  | _ :: _, [] => by simp [toPys, PyData.eqvAll, D.eqvs]
  | x :: r, y :: t => by simp only [toPys, PyData.eqvAll, D.eqvs, toPy_eqv x y, toPys_eqv r t]
end
section
variable {K : PySem.W.Frag} {CT : Cts} {W : WX} {m : Nat → Addr} {N : Nat} {G H : Hp} {h : PH} {σ : St}
theorem den_all {n : Nat} (ih : ∀ (x : PV) (v : V) (d : D), Rel K m h.length G x v → den h n x = some d → Dp K H v (toPy d) ∧ (toPy d).depth ≤ n) :
    ∀ (xs : List PV) (vs : List V) (ds : List D), RelL K m h.length G xs vs → mapO (den h n) xs = some ds → DpAll K H vs (toPys ds) ∧ PyData.depthAll (toPys ds) ≤ n
  | [], _, ds, r, e => by
    cases r
    have e' : ds = [] := by simpa [mapO] using e.symm
    subst e'
    exact ⟨.nil, by simp [toPys, PyData.depthAll]⟩
  | x :: xs, _, ds, r, e => by
    cases r with
    | cons a r =>
      rw [mapO] at e
      cases e1 : den h n x with
      | none => rw [e1] at e; simp at e
      | some y =>
        rw [e1] at e
        cases e2 : mapO (den h n) xs with
        | none => rw [e2] at e; simp at e
        | some ys =>
          rw [e2] at e
          have e' : ds = y :: ys := by simpa using e.symm
          subst e'
          obtain ⟨q1, q2⟩ := ih _ _ _ a e1
          obtain ⟨q3, q4⟩ := den_all ih xs _ ys r e2
          refine ⟨.cons q1 q3, ?_⟩
          simp only [toPys, PyData.depthAll]
          omega
theorem den_dp (R : HR K CT m G H h) : ∀ (n : Nat) (x : PV) (v : V) (d : D), Rel K m h.length G x v → den h n x = some d → Dp K H v (toPy d) ∧ (toPy d).depth ≤ n := by
  intro n
  induction n with
  | zero =>
    intro x v d r e
    cases x with
    | non => obtain rfl := r.non_inv; simp [den] at e; subst e; exact ⟨by simp only [toPy]; exact .non, by simp [toPy, PyData.depth]⟩
    | bl b => obtain rfl := r.bl_inv; simp [den] at e; subst e; exact ⟨by simp only [toPy]; exact .bl b, by simp [toPy, PyData.depth]⟩
    | int i => obtain rfl := r.int_inv; simp [den] at e; subst e; exact ⟨by simp only [toPy]; exact .int i, by simp [toPy, PyData.depth]⟩
    | str s => obtain rfl := r.str_inv; simp [den] at e; subst e; exact ⟨by simp only [toPy]; exact .str _, by simp [toPy, PyData.depth]⟩
    | tup xs => simp [den] at e
    | ref k => simp [den] at e
  | succ n ih =>
    intro x v d r e
    cases x with
    | non => obtain rfl := r.non_inv; simp [den] at e; subst e; exact ⟨by simp only [toPy]; exact .non, by simp [toPy, PyData.depth]⟩
    | bl b => obtain rfl := r.bl_inv; simp [den] at e; subst e; exact ⟨by simp only [toPy]; exact .bl b, by simp [toPy, PyData.depth]⟩
    | int i => obtain rfl := r.int_inv; simp [den] at e; subst e; exact ⟨by simp only [toPy]; exact .int i, by simp [toPy, PyData.depth]⟩
    | str s => obtain rfl := r.str_inv; simp [den] at e; subst e; exact ⟨by simp only [toPy]; exact .str _, by simp [toPy, PyData.depth]⟩
    | tup xs =>
      obtain ⟨a, vs, rfl, hs, rl⟩ := r.tup_inv
      simp only [den] at e
      cases e1 : mapO (den h n) xs with
      | none => rw [e1] at e; simp at e
      | some ds =>
        rw [e1] at e
        have e' : d = .tup ds := by simpa using e.symm
        subst e'
        obtain ⟨q1, q2⟩ := den_all ih xs vs ds rl e1
        refine ⟨by simp only [toPy]; exact .tup (R.sub.sqT hs) q1, ?_⟩
        simp only [toPy, PyData.depth]
        omega
    | ref k =>
      obtain ⟨rfl, hk⟩ := r.ref_inv
      simp only [den] at e
      split at e
      · rename_i xs ek
        obtain ⟨vs, hs, rl⟩ := R.lst ek
        cases e1 : mapO (den h n) xs with
        | none => rw [e1] at e; simp at e
        | some ds =>
          rw [e1] at e
          have e' : d = .lst ds := by simpa using e.symm
          subst e'
          obtain ⟨q1, q2⟩ := den_all ih xs vs ds rl e1
          refine ⟨by simp only [toPy]; exact .lst (.inl (.inl hs)) q1, ?_⟩
          simp only [toPy, PyData.depth]
          omega
      · rename_i xs ek
        obtain ⟨vs, hs, rl⟩ := R.frz ek
        cases e1 : mapO (den h n) xs with
        | none => rw [e1] at e; simp at e
        | some ds =>
          rw [e1] at e
          have e' : d = .lst ds := by simpa using e.symm
          subst e'
          obtain ⟨q1, q2⟩ := den_all ih xs vs ds rl e1
          refine ⟨by simp only [toPy]; exact .lst hs q1, ?_⟩
          simp only [toPy, PyData.depth]
          omega
      · simp at e
theorem den_shaped (R : HR K CT m G H h) {n : Nat} {x : PV} {v : V} {d : D} (r : Rel K m h.length G x v) (e : den h n x = some d) (hn : n ≤ 64) : SeqAt.shaped (toPy d) = true := by
  have q := (den_dp R n x v d r e).2
  unfold SeqAt.shaped
  rw [toPy_lay]
  simp only [Bool.true_and, decide_eq_true_eq]
  omega
end
def rC (K : PySem.W.Frag) (CT : Cts) (W : WX) (o : COp) : R2 := fun x y H Q => ∃ m G h px py σ, HR K CT m G H h ∧ Rel K m h.length G px x ∧ Rel K m h.length G py y ∧ Post K CT (Rel K) W σ m G h.length Q (cmpV o px py h)
section
variable {X : Cx} {CT : Cts} {W : WX}
theorem eq_parts {K : PySem.W.Frag} {m : Nat → Addr} {G H : Hp} {h : PH} {σ : St} {Q : VK} {px py : PV} {f : Bool → Bool} (p : Post K CT (Rel K) W σ m G h.length Q (match eqV px py h with
    | some b => .ok (.bl (f b)) h
    | none => .bad)) (R : HR K CT m G H h) (nd : dicStr px py h = false) (ne : empEq px py h = none) : ∃ a b, den h 60 px = some a ∧ den h 60 py = some b ∧ Q (.bl (f (D.eqv a b))) H := by
  unfold eqV at p
  rw [nd, if_neg (by simp), ne] at p
  dsimp only at p
  cases e1 : den h 60 px with
  | none => rw [e1] at p; exact p.elim
  | some a =>
    cases e2 : den h 60 py with
    | none => rw [e1, e2] at p; exact p.elim
    | some b =>
      rw [e1, e2] at p
      exact ⟨a, b, rfl, rfl, Post.now p R (.bl _)⟩
theorem emp_sq {K : PySem.W.Frag} {CT : Cts} {m : Nat → Addr} {G H : Hp} {h : PH} {px : PV} {x : V} {a p : Bool} (R : HR K CT m G H h) (r : Rel K m h.length G px x) (e : emp px h = some (a, p)) : ∃ b xs, x = .ref b ∧ p = xs.isEmpty ∧ ((a = false ∧ SqL K H b xs) ∨ (a = true ∧ SqT K H b xs)) := by
  have len : ∀ {ps : List PV} {vs : List V}, RelL K m h.length G ps vs → ps.isEmpty = vs.isEmpty := fun q => by
    cases q <;> rfl
  unfold emp at e
  split at e
  · obtain ⟨b, vs, rfl, ht, rl⟩ := r.tup_inv
    injection e with e
    injection e with e1 e2
    subst e1 e2
    exact ⟨b, vs, rfl, len rl, .inr ⟨rfl, R.sub.sqT ht⟩⟩
  · obtain ⟨rfl, _⟩ := r.ref_inv
    split at e
    · rename_i xs ek
      obtain ⟨vs, hH, rl⟩ := R.lst ek
      injection e with e
      injection e with e1 e2
      subst e1 e2
      exact ⟨_, vs, rfl, len rl, .inl ⟨rfl, .of hH⟩⟩
    · rename_i xs ek
      obtain ⟨vs, hH, rl⟩ := R.frz ek
      injection e with e
      injection e with e1 e2
      subst e1 e2
      exact ⟨_, vs, rfl, len rl, .inl ⟨rfl, hH⟩⟩
    · cases e
  · cases e
theorem em_parts {K : PySem.W.Frag} {m : Nat → Addr} {G H : Hp} {h : PH} {σ : St} {Q : VK} {px py : PV} {x y : V} {f : Bool → Bool} (p : Post K CT (Rel K) W σ m G h.length Q (match eqV px py h with
    | some b => .ok (.bl (f b)) h
    | none => .bad)) (R : HR K CT m G H h) (nd : dicStr px py h = false) {b : Bool} (ne : empEq px py h = some b) (r1 : Rel K m h.length G px x) (r2 : Rel K m h.length G py y) : rEm K f x y H Q := by
  unfold eqV at p
  rw [nd, if_neg (by simp), ne] at p
  dsimp only at p
  unfold empEq at ne
  split at ne
  · rename_i a1 p1 a2 p2 e1 e2
    split at ne
    · rename_i hc
      obtain ⟨rfl, hz⟩ := hc
      injection ne with ne
      subst ne
      obtain ⟨b1, xs, rfl, rfl, k1⟩ := emp_sq R r1 e1
      obtain ⟨b2, ys, rfl, rfl, k2⟩ := emp_sq R r2 e2
      refine ⟨b1, b2, xs, ys, rfl, rfl, ?_, ?_, Post.now p R (.bl _)⟩
      · rcases k1 with ⟨rfl, k1⟩ | ⟨rfl, k1⟩
        · rcases k2 with ⟨_, k2⟩ | ⟨z, _⟩
          · exact .inl ⟨k1, k2⟩
          · cases z
        · rcases k2 with ⟨z, _⟩ | ⟨_, k2⟩
          · cases z
          · exact .inr ⟨k1, k2⟩
      · rcases hz with hz | hz
        · exact .inl (List.isEmpty_iff.mp hz)
        · exact .inr (List.isEmpty_iff.mp hz)
    · cases ne
  · cases ne
theorem dic_parts {K : PySem.W.Frag} {m : Nat → Addr} {G H : Hp} {h : PH} {σ : St} {Q : VK} {px py : PV} {x y : V} {f : Bool → Bool} (p : Post K CT (Rel K) W σ m G h.length Q (match eqV px py h with
    | some b => .ok (.bl (f b)) h
    | none => .bad)) (R : HR K CT m G H h) (nd : dicStr px py h = true) (r1 : Rel K m h.length G px x) (r2 : Rel K m h.length G py y) : rDS K (f false) x y H Q := by
  unfold eqV at p
  rw [nd, if_pos rfl] at p
  unfold dicStr at nd
  split at nd
  · rename_i n t
    obtain ⟨rfl, _⟩ := r1.ref_inv
    obtain rfl := r2.str_inv
    split at nd
    · rename_i kvs ek
      obtain ⟨ks, hH, _⟩ := R.dic ek
      exact ⟨_, _, rfl, rfl, .inl ⟨ks, hH⟩, Post.now p R (.bl _)⟩
    · rename_i kvs ek
      obtain ⟨ks, hH, _⟩ := R.lst ek
      exact ⟨_, _, rfl, rfl, .inr (.inl ⟨ks, .of hH⟩), Post.now p R (.bl _)⟩
    · rename_i kvs ek
      obtain ⟨ks, hH, _⟩ := R.frz ek
      exact ⟨_, _, rfl, rfl, .inr (.inl ⟨ks, hH⟩), Post.now p R (.bl _)⟩
    · cases nd
  · obtain ⟨a, vs, rfl, ht, _⟩ := r1.tup_inv
    obtain rfl := r2.str_inv
    exact ⟨_, _, rfl, rfl, .inr (.inr ⟨vs, R.sub.sqT ht⟩), Post.now p R (.bl _)⟩
  · cases nd
theorem op_C_eq (hu : X.A.units + 64 < cLine) : OpR X (compareOp .Eq) (rC X.K CT W .eq) := by
  intro pins s σ H x y v u Q I rx ry ⟨m, G, h, px, py, σ', R, r1, r2, p⟩
  by_cases nd : dicStr px py h = true
  · exact op_eq_ds (by omega) pins s σ H x y v u Q I rx ry (dic_parts (f := fun b => b) p R nd r1 r2)
  rw [Bool.not_eq_true] at nd
  cases ne : empEq px py h with
  | some b => exact op_eq_em (by omega) pins s σ H x y v u Q I rx ry (em_parts (f := fun b => b) p R nd ne r1 r2)
  | none =>
  obtain ⟨a, b, e1, e2, q⟩ := eq_parts (f := fun b => b) p R nd ne
  refine op_eqD hu pins s σ H x y v u Q I rx ry ⟨toPy a, toPy b, (den_dp R _ _ _ _ r1 e1).1, (den_dp R _ _ _ _ r2 e2).1, den_shaped R r1 e1 (by decide), den_shaped R r2 e2 (by decide), ?_⟩
  rw [toPy_eqv]
  exact q
theorem op_C_ne (hu : X.A.units + 64 < cLine) : OpR X (compareOp .NotEq) (rC X.K CT W .ne) := by
  intro pins s σ H x y v u Q I rx ry ⟨m, G, h, px, py, σ', R, r1, r2, p⟩
  by_cases nd : dicStr px py h = true
  · exact op_ne_ds (by omega) pins s σ H x y v u Q I rx ry (dic_parts (f := fun b => !b) p R nd r1 r2)
  rw [Bool.not_eq_true] at nd
  cases ne : empEq px py h with
  | some b => exact op_ne_em (by omega) pins s σ H x y v u Q I rx ry (em_parts (f := fun b => !b) p R nd ne r1 r2)
  | none =>
  obtain ⟨a, b, e1, e2, q⟩ := eq_parts (f := fun b => !b) p R nd ne
  refine op_neD hu pins s σ H x y v u Q I rx ry ⟨toPy a, toPy b, (den_dp R _ _ _ _ r1 e1).1, (den_dp R _ _ _ _ r2 e2).1, den_shaped R r1 e1 (by decide), den_shaped R r2 e2 (by decide), ?_⟩
  rw [toPy_eqv]
  exact q
theorem ints_relA {K : PySem.W.Frag} {m : Nat → Addr} {N : Nat} {G : Hp} : ∀ {xs : List PV} {vs : List V} {ns : List Int}, RelL K m N G xs vs → intsOf xs = some ns → vs = ns.map V.int
  | [], _, ns, r, e => by
    cases r
    injection e with e
    subst e
    rfl
  | x :: xs, _, ns, r, e => by
    cases r with
    | cons a r =>
      cases x with
      | int i =>
        obtain rfl := a.int_inv
        simp only [intsOf] at e
        cases e2 : intsOf xs with
        | none => rw [e2] at e; cases e
        | some l =>
          rw [e2] at e
          injection e with e
          subst e
          rw [ints_relA r e2]
          rfl
      | _ => cases e
theorem lexI_lt : ∀ (a b : List Int), lexI a b = HT.lexLt a b
  | [], [] => rfl
  | [], _ :: _ => rfl
  | _ :: _, [] => rfl
  | x :: r, y :: t => by rw [lexI, HT.lexLt_cons, lexI_lt r t]
theorem op_C_lt (hu : X.A.units < cLine) : OpR X (compareOp .Lt) (rC X.K CT W .lt) := by
  intro pins s σ H x y v u Q I rx ry ⟨m, G, h, px, py, σ', R, r1, r2, p⟩
  simp only [cmpV] at p
  split at p
  · obtain rfl := r1.int_inv
    obtain rfl := r2.int_inv
    exact op_lt pins s σ H _ _ v u Q I rx ry ⟨_, _, rfl, rfl, Post.now p R (.bl _)⟩
  · rename_i xs ys
    split at p
    · rename_i a b ea eb
      obtain ⟨a1, v1, rfl, s1, l1⟩ := r1.tup_inv
      obtain ⟨a2, v2, rfl, s2, l2⟩ := r2.tup_inv
      obtain rfl := ints_relA l1 ea
      obtain rfl := ints_relA l2 eb
      refine op_ltT hu pins s σ H _ _ v u Q I rx ry ⟨a1, a2, a, b, rfl, rfl, R.sub.sqT s1, R.sub.sqT s2, ?_⟩
      rw [← lexI_lt]
      exact Post.now p R (.bl _)
    · exact p.elim
  · exact p.elim
theorem op_C_le : OpR X (compareOp .LtE) (rC X.K CT W .le) := by
  intro pins s σ H x y v u Q I rx ry ⟨m, G, h, px, py, σ', R, r1, r2, p⟩
  simp only [cmpV] at p
  split at p
  · obtain rfl := r1.int_inv
    obtain rfl := r2.int_inv
    exact op_le pins s σ H _ _ v u Q I rx ry ⟨_, _, rfl, rfl, Post.now p R (.bl _)⟩
  · exact p.elim
theorem op_C_gt : OpR X (compareOp .Gt) (rC X.K CT W .gt) := by
  intro pins s σ H x y v u Q I rx ry ⟨m, G, h, px, py, σ', R, r1, r2, p⟩
  simp only [cmpV] at p
  split at p
  · obtain rfl := r1.int_inv
    obtain rfl := r2.int_inv
    exact op_gt pins s σ H _ _ v u Q I rx ry ⟨_, _, rfl, rfl, Post.now p R (.bl _)⟩
  · exact p.elim
theorem op_C_ge : OpR X (compareOp .GtE) (rC X.K CT W .ge) := by
  intro pins s σ H x y v u Q I rx ry ⟨m, G, h, px, py, σ', R, r1, r2, p⟩
  simp only [cmpV] at p
  split at p
  · obtain rfl := r1.int_inv
    obtain rfl := r2.int_inv
    exact op_ge pins s σ H _ _ v u Q I rx ry ⟨_, _, rfl, rfl, Post.now p R (.bl _)⟩
  · exact p.elim
theorem non_iff {K : PySem.W.Frag} {m : Nat → Addr} {N : Nat} {G : Hp} {x : PV} {v : V} (r : Rel K m N G x v) : decide (v = .non) = decide (x = .non) := by
  cases r <;> simp
theorem op_C_is : OpR X (compareOp .Is) (rC X.K CT W .is) := by
  intro pins s σ H x y v u Q I rx ry ⟨m, G, h, px, py, σ', R, r1, r2, p⟩
  simp only [cmpV] at p
  split at p
  · obtain rfl := r2.non_inv
    refine op_isN pins s σ H _ _ v u Q I rx ry ⟨rfl, ?_⟩
    rw [non_iff r1]
    exact Post.now p R (.bl _)
  · exact p.elim
theorem op_C_isnot : OpR X (compareOp .IsNot) (rC X.K CT W .isnot) := by
  intro pins s σ H x y v u Q I rx ry ⟨m, G, h, px, py, σ', R, r1, r2, p⟩
  simp only [cmpV] at p
  split at p
  · obtain rfl := r2.non_inv
    refine op_notN pins s σ H _ _ v u Q I rx ry ⟨rfl, ?_⟩
    rw [non_iff r1]
    exact Post.now p R (.bl _)
  · exact p.elim
end
end Mi
set_option Elab.async false
set_option linter.all false
set_option maxRecDepth 100000
namespace Mi
open PySem L2
def boOp : BOp → Operator
  | .add => .Add | .sub => .Sub | .mul => .Mult | .fdiv => .FloorDiv | .mod => .Mod | .pow => .Pow | .band => .BitAnd | .bor => .BitOr | .bxor => .BitXor
def coOp : COp → CmpOp
  | .eq => .Eq | .ne => .NotEq | .lt => .Lt | .le => .LtE | .gt => .Gt | .ge => .GtE | .isin => .In | .notin => .NotIn | .is => .Is | .isnot => .IsNot
theorem Rel.len {K : PySem.W.Frag} {m : Nat → Addr} {N : Nat} {G : Hp} {xs : List PV} {vs : List V} (r : RelL K m N G xs vs) : vs.length = xs.length := r.length.symm
theorem flat_replicate {K : PySem.W.Frag} {m : Nat → Addr} {N : Nat} {G : Hp} {xs : List PV} {vs : List V} (r : RelL K m N G xs vs) : ∀ n : Nat, RelL K m N G (List.replicate n xs).flatten (List.replicate n vs).flatten
  | 0 => .nil
  | n + 1 => by rw [List.replicate_succ, List.replicate_succ, List.flatten_cons, List.flatten_cons]; exact r.append (flat_replicate r n)
section
variable {X : Cx} {CT : Cts} {W : WX}
theorem str_flat (a : List Char) (n : Nat) : (List.replicate n (a.map Char.toNat)).flatten = ((List.replicate n a).flatten).map Char.toNat := by
  induction n with
  | zero => rfl
  | succ n ih => rw [List.replicate_succ, List.replicate_succ, List.flatten_cons, List.flatten_cons, List.map_append, ih]
theorem op_B (o : BOp) : OpR X (binaryOp (boOp o)) (rB X.K CT W o) := by
  intro pins s σ H x y v u Q I rx ry ⟨m, G, h, px, py, σ', R, r1, r2, p⟩
  unfold bopV at p
  split at p
  · rename_i i j
    obtain rfl := r1.int_inv
    obtain rfl := r2.int_inv
    split at p
    · exact op_add pins s σ H _ _ v u Q I rx ry ⟨_, _, rfl, rfl, Post.now p R (.int _)⟩
    · exact op_sub pins s σ H _ _ v u Q I rx ry ⟨_, _, rfl, rfl, Post.now p R (.int _)⟩
    · split at p
      · rename_i hm
        exact op_mulW pins s σ H _ _ v u Q I rx ry ⟨_, _, rfl, rfl, (show i.natAbs.log2 + j.natAbs.log2 < 1000000 from of_decide_eq_true hm), Post.now p R (.int _)⟩
      · exact p.elim
    · split at p
      · rename_i hm
        exact op_fdivW pins s σ H _ _ v u Q I rx ry ⟨_, _, rfl, rfl, hm, Post.now p R (.int _)⟩
      · exact p.elim
    · split at p
      · rename_i hm
        exact op_mod pins s σ H _ _ v u Q I rx ry ⟨_, _, rfl, rfl, hm, Post.now p R (.int _)⟩
      · exact p.elim
    · split at p
      · rename_i hm
        obtain ⟨t, rfl⟩ := rx
        obtain ⟨t', rfl⟩ := ry
        refine PyProof.Rows.pow_int hm.1 ?_ ⟨.int _, H, I.tok _, ⟨_, rfl⟩, Post.now p R (.int _)⟩
        have hb : Builtin.Int.intBits i ≤ i.natAbs.log2 + 1 := by
          unfold Builtin.Int.intBits
          split <;> omega
        have h2 : Builtin.Int.intBits i * j.toNat ≤ 134217728 := Nat.le_trans (Nat.mul_le_mul_right _ hb) hm.2
        have h3 : ((Builtin.Int.intBits i * j.toNat : Nat) : Int) ≤ 134217728 := Int.ofNat_le.mpr h2
        rw [Int.natCast_mul, Int.toNat_of_nonneg hm.1] at h3
        exact h3
      · exact p.elim
    · exact p.elim
  · rename_i a b
    obtain rfl := r1.str_inv
    obtain rfl := r2.str_inv
    split at p
    · split at p
      · rename_i hl
        refine op_add_str pins s σ H _ _ v u Q I rx ry ⟨_, _, rfl, rfl, by rw [S2_len, S2_len, ← szl_eq]; exact hl, ?_⟩
        rw [S2_app]
        exact Post.now p R (.str _)
      · exact p.elim
    · exact p.elim
  · rename_i a k
    obtain rfl := r1.str_inv
    obtain rfl := r2.int_inv
    split at p
    · split at p
      · rename_i hl
        refine op_strmul pins s σ H _ _ v u Q I rx ry ⟨_, k, rfl, rfl, ⟨hl.1, hl.2.1, by rw [List.length_map]; exact hl.2.2⟩, ?_⟩
        rw [str_flat]
        exact Post.now p R (.str _)
      · exact p.elim
    · exact p.elim
  · rename_i a b
    obtain ⟨a1, v1, rfl, s1, l1⟩ := r1.tup_inv
    obtain ⟨a2, v2, rfl, s2, l2⟩ := r2.tup_inv
    split at p
    · split at p
      · rename_i hl
        refine op_catA pins s σ H _ _ v u Q I rx ry ⟨a1, a2, v1, v2, rfl, rfl, R.sub.sqT s1, R.sub.sqT s2, by rw [Rel.len l1, Rel.len l2, ← szl_eq]; exact hl, fun e => ?_, fun e1 e2 => ?_, fun e1 e2 q hq => ?_⟩
        · have : a = [] := List.length_eq_zero_iff.mp (by rw [l1.length, e]; rfl)
          subst this
          exact Post.now p R (.tup s2 l2)
        · have : b = [] := List.length_eq_zero_iff.mp (by rw [l2.length, e2]; rfl)
          subst this
          rw [List.append_nil] at p
          exact Post.now p R (.tup s1 l1)
        · exact Post.newT p R (l1.append l2) hq
      · exact p.elim
    · exact p.elim
  · rename_i a k
    obtain ⟨a1, v1, rfl, s1, l1⟩ := r1.tup_inv
    obtain rfl := r2.int_inv
    split at p
    · split at p
      · rename_i hk
        subst hk
        exact op_repT1 pins s σ H _ _ v u Q I rx ry ⟨a1, v1, rfl, rfl, R.sub.sqT s1, Post.now p R (.tup s1 l1)⟩
      split at p
      · rename_i hl
        refine op_repT pins s σ H _ _ v u Q I rx ry ⟨a1, k, v1, rfl, rfl, R.sub.sqT s1, fun e => ?_, hl.2.1, hl.2.2.1, by rw [Rel.len l1]; exact hl.2.2.2, fun q hq => Post.newT p R (flat_replicate l1 _) hq⟩
        exact hl.1 (List.length_eq_zero_iff.mp (by rw [l1.length, e]; rfl))
      · exact p.elim
    · exact p.elim
  · rename_i a b
    obtain ⟨rfl, ha⟩ := r1.ref_inv
    obtain ⟨rfl, hb⟩ := r2.ref_inv
    split at p
    · rename_i xs ys e1 e2
      obtain ⟨v1, q1, l1⟩ := R.lst e1
      obtain ⟨v2, q2, l2⟩ := R.lst e2
      split at p
      · rename_i hl
        exact op_cat pins s σ H _ _ v u Q I rx ry ⟨_, _, v1, v2, rfl, rfl, q1, q2, by rw [Rel.len l1, Rel.len l2, ← szl_eq]; exact hl, fun q hq => Post.newL p R (l1.append l2) hq⟩
      · exact p.elim
    · exact p.elim
  · rename_i a k
    obtain ⟨rfl, ha⟩ := r1.ref_inv
    obtain rfl := r2.int_inv
    split at p
    · rename_i xs e1
      obtain ⟨v1, q1, l1⟩ := R.lst e1
      split at p
      · rename_i hl
        exact op_rep pins s σ H _ _ v u Q I rx ry ⟨_, k, v1, rfl, rfl, q1, by omega, by omega, by rw [Rel.len l1, ← szl_eq]; exact hl.2.2, fun q hq => Post.newL p R (flat_replicate l1 _) hq⟩
      · exact p.elim
    · exact p.elim
  · exact p.elim
theorem any_eq (d : D) : ∀ ds : List D, (toPys ds).any (fun z => PyData.eqv z (toPy d)) = anyEq d ds
  | [] => rfl
  | x :: r => by
    simp only [toPys, List.any_cons, toPy_eqv, anyEq]
    rw [any_eq d r]
theorem lookK_val {K : PySem.W.Frag} {m : Nat → Addr} {N : Nat} {G : Hp} {k : PV} {g : Key} (rk : RelK k g) : ∀ {kvs : List (PV × PV)} {ks : List (Key × V)}, RelD K m N G kvs ks →
    (∀ x, lookK k kvs = some x → ∃ v, valV ks g = some v ∧ Rel K m N G x v) ∧ (lookK k kvs = none → valV ks g = none)
  | [], [], _ => ⟨fun x e => (by cases e), fun _ => rfl⟩
  | (a, w) :: r, (b, v) :: t, ⟨h1, h2, h3⟩ => by
    obtain ⟨i1, i2⟩ := lookK_val rk h3
    have hkb : (a = k) ↔ (b = g) := by
      cases a <;> cases b <;> cases k <;> cases g <;> simp_all [RelK]
      rename_i s1 s2
      constructor
      · rintro rfl; rfl
      · exact map_inj
    by_cases e : a = k
    · have e' := hkb.mp e
      subst e'
      refine ⟨fun x q => ?_, fun q => ?_⟩
      · simp only [lookK, if_pos e] at q
        obtain rfl : w = x := by simpa using q
        exact ⟨v, by simp [valV], h2⟩
      · simp only [lookK, if_pos e] at q
        cases q
    · have e' : ¬ b = g := fun z => e (hkb.mpr z)
      refine ⟨fun x q => ?_, fun q => ?_⟩
      · simp only [lookK, if_neg e] at q
        obtain ⟨z, h4, h5⟩ := i1 x q
        refine ⟨z, ?_, h5⟩
        simp only [valV] at h4 ⊢
        rw [List.find?_cons_of_neg (by simpa using e')]
        exact h4
      · simp only [lookK, if_neg e] at q
        have h4 := i2 q
        simp only [valV] at h4 ⊢
        rw [List.find?_cons_of_neg (by simpa using e')]
        exact h4
theorem key_of {K : PySem.W.Frag} {m : Nat → Addr} {N : Nat} {G : Hp} {k : PV} {v : V} (r : Rel K m N G k v) (hk : keyOk k = true) : ∃ g, RelK k g ∧ v = kV g := by
  cases k with
  | int i => obtain rfl := r.int_inv; exact ⟨.inl i, rfl, rfl⟩
  | str s => obtain rfl := r.str_inv; exact ⟨.inr (S2 s), rfl, rfl⟩
  | _ => cases hk
end
end Mi
set_option Elab.async false
set_option linter.all false
set_option maxRecDepth 100000
namespace Mi
open PySem L2
theorem nk_inj : ∀ (n : Nat) (x y : PV), tkIn n x = true → tkIn n y = true → nkOf n x = nkOf n y → kcn n x = kcn n y
  | 0, x, y, hx, hy, h => by
    cases x <;> cases y <;> first | (simp [tkIn] at hx; done) | (simp [tkIn] at hy; done) | (simp [nkOf] at h; done) | rfl | (simp only [nkOf, NestedKey.num.injEq, NestedKey.text.injEq] at h; first | (rw [S2_inj h]; done) | simp [kcn, h])
  | n + 1, x, y, hx, hy, h => by
    have ls : ∀ {xs ys : List PV}, xs.all (tkIn n) = true → ys.all (tkIn n) = true → xs.map (nkOf n) = ys.map (nkOf n) → xs.map (kcn n) = ys.map (kcn n) := by
      intro xs
      induction xs with
      | nil => intro ys _ _ e; cases ys with
        | nil => rfl
        | cons _ _ => simp at e
      | cons a r ih => intro ys h1 h2 e; cases ys with
        | nil => simp at e
        | cons b t =>
          rw [List.all_cons, Bool.and_eq_true] at h1 h2
          rw [List.map_cons, List.map_cons] at e
          injection e with e1 e2
          rw [List.map_cons, List.map_cons, nk_inj n a b h1.1 h2.1 e1, ih h1.2 h2.2 e2]
    cases x <;> cases y <;> first | (simp [tkIn] at hx; done) | (simp [tkIn] at hy; done) | (simp [nkOf] at h; done) | rfl | (simp only [nkOf, NestedKey.num.injEq, NestedKey.text.injEq] at h; first | (rw [S2_inj h]; done) | (simp [kcn, h]; done)) | skip
    rename_i xs ys
    simp only [nkOf, NestedKey.tup.injEq] at h
    simp only [tkIn] at hx hy
    simp only [kcn]
    rw [ls hx hy h]
theorem nk_depth : ∀ (n : Nat) (x : PV), tkIn n x = true → (nkOf n x).depth ≤ n
  | 0, x, h => by cases x <;> first | (simp [tkIn] at h; done) | simp [nkOf, NestedKey.depth]
  | n + 1, x, h => by
    cases x <;> first | (simp [tkIn] at h; done) | (simp [nkOf, NestedKey.depth]; done) | skip
    rename_i xs
    simp only [tkIn] at h
    simp only [nkOf, NestedKey.depth]
    have : ∀ {xs : List PV}, xs.all (tkIn n) = true → NestedKey.depthAll (xs.map (nkOf n)) ≤ n := by
      intro xs
      induction xs with
      | nil => intro _; simp [NestedKey.depthAll]
      | cons a r ih =>
        intro h1
        rw [List.all_cons, Bool.and_eq_true] at h1
        simp only [List.map_cons, NestedKey.depthAll]
        exact Nat.max_le.mpr ⟨nk_depth n a h1.1, ih h1.2⟩
    exact Nat.succ_le_succ (this h)
section
variable {K : PySem.W.Frag} {CT : Cts} {m : Nat → Addr} {N : Nat} {G H : Hp} {h : PH}
theorem rel_key (t : Sub G H) : ∀ (n : Nat) {x : PV} {v : V}, tkIn n x = true → Rel K m N G x v → KeyIs K H (nkOf n x) v
  | 0, x, v, hx, r => by
    cases r with
    | non => exact .non
    | bl b => exact .bl b
    | int i => exact .int i
    | str s => exact .str _
    | ref _ => simp [tkIn] at hx
    | tup _ _ => simp [tkIn] at hx
  | n + 1, x, v, hx, r => by
    cases r with
    | non => exact .non
    | bl b => exact .bl b
    | int i => exact .int i
    | str s => exact .str _
    | ref _ => simp [tkIn] at hx
    | tup hs rl =>
      simp only [tkIn] at hx
      have : ∀ {xs : List PV} {vs : List V}, xs.all (tkIn n) = true → RelL K m N G xs vs → KeyAll K H (xs.map (nkOf n)) vs := by
        intro xs
        induction xs with
        | nil => intro vs _ q; cases q; exact .nil
        | cons a r ih =>
          intro vs h1 q
          rw [List.all_cons, Bool.and_eq_true] at h1
          cases q with
          | cons q1 q2 => exact .cons (rel_key t n h1.1 q1) (ih h1.2 q2)
      exact .tup (t.sqT hs) (this hx rl)
theorem tkOk_in {k : PV} (h : tkOk k = true) : tkIn 8 k = true := by
  unfold tkOk at h
  split at h
  · exact h
  · cases h
theorem tkOk_ref {k : PV} {v : V} (h : tkOk k = true) (r : Rel K m N G k v) : ∃ b, v = .ref b := by
  unfold tkOk at h
  split at h
  · obtain ⟨a, vs, rfl, _⟩ := r.tup_inv
    exact ⟨a, rfl⟩
  · cases h
theorem relT_keys (t : Sub G H) : ∀ {kvs : List (PV × PV)} {xs : List (NestedKey × Addr × V)}, RelT K m N G kvs xs → ∀ x ∈ xs, KeyIs K H x.1 (.ref x.2.1) ∧ x.1.depth ≤ 8
  | [], [], _ => fun x hx => nomatch hx
  | (k, y) :: r, (g, b, v) :: s, ⟨⟨h1, h2, h3⟩, _, q⟩ => fun x hx => by
    rcases List.mem_cons.mp hx with e | hx
    · subst e
      subst h1
      exact ⟨rel_key t 8 (tkOk_in h2) h3, nk_depth 8 k (tkOk_in h2)⟩
    · exact relT_keys t q x hx
theorem relT_len : ∀ {kvs : List (PV × PV)} {xs : List (NestedKey × Addr × V)}, RelT K m N G kvs xs → kvs.length = xs.length
  | [], [], _ => rfl
  | (k, y) :: r, (g, b, v) :: s, ⟨_, _, q⟩ => by rw [List.length_cons, List.length_cons, relT_len q]
theorem relT_look {k : PV} (hk : tkOk k = true) : ∀ {kvs : List (PV × PV)} {xs : List (NestedKey × Addr × V)}, tkFit k kvs = true → RelT K m N G kvs xs →
    (∀ x, lookK k kvs = some x → ∃ w, atT xs (nkOf 8 k) = some w ∧ Rel K m N G x w) ∧ (lookK k kvs = none → atT xs (nkOf 8 k) = none)
  | [], [], _, _ => ⟨fun x e => by simp [lookK] at e, fun _ => rfl⟩
  | (k', y) :: r, (g, b, v) :: s, f, ⟨⟨h1, h2, h3⟩, h4, q⟩ => by
    subst h1
    unfold tkFit at f
    rw [List.all_cons, Bool.and_eq_true] at f
    have ih := relT_look hk (kvs := r) f.2 q
    unfold lookK atT
    by_cases e : k' = k
    · subst e
      rw [if_pos rfl, List.find?_cons_of_pos (by simp)]
      exact ⟨fun x ex => ⟨v, rfl, by injection ex with ex; subst ex; exact h4⟩, fun ex => by cases ex⟩
    · have ne : nkOf 8 k' ≠ nkOf 8 k := fun z => by
        have := nk_inj 8 k' k (tkOk_in h2) (tkOk_in hk) z
        have f1 := f.1
        simp only [this, decide_true, Bool.not_true, Bool.false_or, decide_eq_true_eq] at f1
        exact e f1
      rw [if_neg e, List.find?_cons_of_neg (by simpa using ne)]
      exact ih
theorem relT_isSome {k : PV} (hk : tkOk k = true) {kvs : List (PV × PV)} {xs : List (NestedKey × Addr × V)} (f : tkFit k kvs = true) (q : RelT K m N G kvs xs) : (atT xs (nkOf 8 k)).isSome = (lookK k kvs).isSome := by
  obtain ⟨l1, l2⟩ := relT_look hk f q
  cases e : lookK k kvs with
  | none => rw [l2 e]; rfl
  | some x => obtain ⟨w, h, _⟩ := l1 x e; rw [h]; rfl
theorem look_any (k : PV) : ∀ kvs : List (PV × PV), (kvs.any fun kv => decide (kv.1 = k)) = (lookK k kvs).isSome
  | [] => rfl
  | (a, v) :: r => by
    rw [List.any_cons, look_any k r]
    show _ = (if a = k then some v else lookK k r).isSome
    by_cases e : a = k
    · rw [if_pos e]; simp [e]
    · rw [if_neg e]; simp [e]
theorem relT_map {k x : PV} {v : V} (hv : Rel K m N G x v) (hk : tkOk k = true) : ∀ {kvs : List (PV × PV)} {xs : List (NestedKey × Addr × V)}, tkFit k kvs = true → RelT K m N G kvs xs →
    RelT K m N G (kvs.map (fun kv => if kv.1 = k then (kv.1, x) else kv)) (xs.map (fun y => if y.1 = nkOf 8 k then (y.1, y.2.1, v) else y))
  | [], [], _, _ => trivial
  | (k', y) :: r, (g, b, w) :: s, f, ⟨⟨h1, h2, h3⟩, h4, q⟩ => by
    subst h1
    unfold tkFit at f
    rw [List.all_cons, Bool.and_eq_true] at f
    have ih := relT_map hv hk (kvs := r) f.2 q
    simp only [List.map_cons]
    by_cases e : k' = k
    · subst e
      rw [if_pos rfl, if_pos rfl]
      exact ⟨⟨rfl, h2, h3⟩, hv, ih⟩
    · have ne : nkOf 8 k' ≠ nkOf 8 k := fun z => by
        have := nk_inj 8 k' k (tkOk_in h2) (tkOk_in hk) z
        have f1 := f.1
        simp only [this, decide_true, Bool.not_true, Bool.false_or, decide_eq_true_eq] at f1
        exact e f1
      rw [if_neg e, if_neg ne]
      exact ⟨⟨rfl, h2, h3⟩, h4, ih⟩
theorem relT_snoc {k x : PV} {b : Addr} {v : V} (rk : Rel K m N G k (.ref b)) (hv : Rel K m N G x v) (hk : tkOk k = true) : ∀ {kvs : List (PV × PV)} {xs : List (NestedKey × Addr × V)}, RelT K m N G kvs xs → RelT K m N G (kvs ++ [(k, x)]) (xs ++ [(nkOf 8 k, b, v)])
  | [], [], _ => ⟨⟨rfl, hk, rk⟩, hv, trivial⟩
  | (k', y) :: r, (g, b', w) :: s, ⟨h1, h4, q⟩ => ⟨h1, h4, relT_snoc rk hv hk q⟩
theorem relT_put {k x : PV} {b : Addr} {v : V} (rk : Rel K m N G k (.ref b)) (hv : Rel K m N G x v) (hk : tkOk k = true) {kvs : List (PV × PV)} {xs : List (NestedKey × Addr × V)} (f : tkFit k kvs = true) (q : RelT K m N G kvs xs) :
    RelT K m N G (putK k x kvs) (stT xs (nkOf 8 k) b v) := by
  unfold putK stT
  rw [look_any, relT_isSome hk f q]
  split
  · exact relT_map hv hk f q
  · exact relT_snoc rk hv hk q
theorem HR.dit (R : HR K CT m G H h) {n : Nat} {xs : List (PV × PV)} (e : h[n]? = some (.dit xs)) : ∃ ks, H (m n) = some (DitO CT.nh (m n) ks) ∧ RelT K m h.length G xs ks := R.obj n _ e
end
section
variable {X : Cx} {CT : Cts} {m : Nat → Addr} {G H : Hp} {h : PH}
/-- the dict at n, empty or not -/
theorem td_of (R : HR X.K CT m G H h) {n : Nat} {kvs : List (PV × PV)} (e : h[n]? = some (.dit kvs) ∨ (kvs = [] ∧ h[n]? = some (.dic []))) : ∃ xs, TD X CT.nh H (m n) xs ∧ RelT X.K m h.length G kvs xs := by
  rcases e with e | ⟨rfl, e⟩
  · obtain ⟨xs, hH, rl⟩ := R.dit e
    exact ⟨xs, ⟨.inl hH, relT_keys R.sub rl⟩, rl⟩
  · obtain ⟨ks, hH, rd⟩ := R.dic e
    cases ks with
    | cons _ _ => exact rd.elim
    | nil => exact ⟨[], ⟨.inr ⟨rfl, hH⟩, fun x hx => nomatch hx⟩, trivial⟩
/-- what the operators need: room, the world's hashes -/
structure Hu (X : Cx) (CT : Cts) : Prop where
  u : X.A.units + 65 < cLine
  n : CT.nh = NestedKey.hash X.w
/-- len of such a dict -/
theorem call_lenT : CallR X (.builtin "len") (fun xs H Q => ∃ nh a es, xs = [V.ref a] ∧ H a = some (DitO nh a es) ∧ Q (.int es.length) H) := by
  intro pins s σ H xs us Q I r h
  obtain ⟨nh, a, es, rfl, ha, q⟩ := h
  obtain ⟨u, rfl, ru⟩ := vals1 r
  cases ru
  obtain ⟨⟨z, y, us, pr, o, ds, ep, h1, h2, h3, h4, h5⟩, _⟩ := I.hok a _ ha
  have hr : s.heap.DictRaw a ds ep := ⟨o, h1, h2, h3⟩
  have hs : ds.size = es.length := by
    rw [prT_len pr]
    have := congrArg List.length h4
    simpa using this
  refine PyProof.Rows.call_len_slot (n := es.length) hr.typeIs PySem.F.slot_dict_len (fun Q' hq => call_len_raw y hr (by rw [hs]; exact hq)) (by omega) (by rw [sizeLine_eq] at z; omega) ?_
  exact ⟨.int es.length, H, I.tok _, ⟨_, rfl⟩, q⟩
end
end Mi
set_option Elab.async false
set_option linter.all false
set_option maxRecDepth 100000
namespace Mi
open PySem L2
theorem room_in {A : Around} {d e : Nat} (h1 : d ≤ 64) (hu : A.units + 65 < cLine) : A.units + 1 + min d e < cLine := by omega
section
variable {X : Cx} {CT : Cts} {W : WX}
theorem dgets {K : PySem.W.Frag} {m : Nat → Addr} {G H : Hp} {h : PH} (R : HR K CT m G H h) {n : Nat} {kvs : List (PV × PV)} (e : h[n]? = some (.dic kvs)) {k : PV} {v : V} (r : Rel K m h.length G k v) (hk : keyOk k = true) :
    ∃ o, DGet H (m n) v o ∧ o.isSome = (lookK k kvs).isSome ∧ ∀ x, lookK k kvs = some x → ∃ w, o = some w ∧ Rel K m h.length G x w := by
  obtain ⟨ks, q, rd⟩ := R.dic e
  obtain ⟨g, rk, rfl⟩ := key_of r hk
  obtain ⟨l1, l2⟩ := lookK_val rk rd
  refine ⟨_, DGet.k (k := g) q, ?_, l1⟩
  cases z : lookK k kvs with
  | none => rw [l2 z]; rfl
  | some x =>
    obtain ⟨w, q1, _⟩ := l1 x z
    rw [q1]
    rfl
theorem in_seq {K : PySem.W.Frag} {m : Nat → Addr} {G H : Hp} {h : PH} {px : PV} {ys : List PV} {b : Bool} (p : (match den h 50 px, mapO (den h 50) ys with
      | some a, some bs => some (anyEq a bs)
      | _, _ => none) = some b) : ∃ a bs, den h 50 px = some a ∧ mapO (den h 50) ys = some bs ∧ anyEq a bs = b := by
  cases e1 : den h 50 px with
  | none => rw [e1] at p; cases p
  | some a =>
    cases e2 : mapO (den h 50) ys with
    | none => rw [e1, e2] at p; cases p
    | some bs =>
      rw [e1, e2] at p
      exact ⟨a, bs, rfl, rfl, by simpa using p⟩
/-- what in finds, in the heap -/
inductive InIs (X : Cx) (H : Hp) (x y : V) : Bool → Prop
  | sign (c : Nat) (z : Str) (e1 : x = .str ⟨#[c]⟩) (e2 : y = .str z) : InIs X H x y (decide (c ∈ z.cps.toList))
  | tup (d : D) (bs : List D) (h1 : Dp X.K H x (toPy d)) (h2 : Dp X.K H y (.tuple (toPys bs))) (h3 : PyData.depthAll (toPys bs) ≤ 50) : InIs X H x y (anyEq d bs)
  | lst (d : D) (bs : List D) (h1 : Dp X.K H x (toPy d)) (h2 : Dp X.K H y (.list (toPys bs))) (h3 : PyData.depthAll (toPys bs) ≤ 50) : InIs X H x y (anyEq d bs)
  | dic (a : Addr) (o : Option V) (e : y = .ref a) (g : DGet H a x o) : InIs X H x y o.isSome
  | dit (nh : NestedKey → Int) (hn : nh = NestedKey.hash X.w) (a b : Addr) (xs : List (NestedKey × Addr × V)) (k : NestedKey) (e : y = .ref a) (ex : x = .ref b) (t : TD X nh H a xs) (hk : KeyIs X.K H k (.ref b)) (hd : k.depth ≤ 8) : InIs X H x y (atT xs k).isSome
theorem in_dit {m : Nat → Addr} {G H : Hp} {h : PH} {px : PV} {x : V} {n : Nat} {kvs : List (PV × PV)} (hn : CT.nh = NestedKey.hash X.w) (R : HR X.K CT m G H h) (r1 : Rel X.K m h.length G px x) (e : h[n]? = some (.dit kvs) ∨ (kvs = [] ∧ h[n]? = some (.dic []))) (hk : tkAt px kvs = true) : InIs X H x (.ref (m n)) (lookK px kvs).isSome := by
  unfold tkAt at hk
  rw [Bool.and_eq_true] at hk
  obtain ⟨xs, td, rl⟩ := td_of R e
  obtain ⟨b, rfl⟩ := tkOk_ref hk.1 r1
  rw [← relT_isSome hk.1 hk.2 rl]
  exact .dit _ hn _ b xs _ rfl rfl td (rel_key R.sub 8 (tkOk_in hk.1) r1) (nk_depth 8 px (tkOk_in hk.1))
theorem in_is {m : Nat → Addr} {G H : Hp} {h : PH} {px py : PV} {x y : V} {b : Bool} (hw : CT.nh = NestedKey.hash X.w) (R : HR X.K CT m G H h) (r1 : Rel X.K m h.length G px x) (r2 : Rel X.K m h.length G py y) (hb : inV px py h = some b) : InIs X H x y b := by
  cases py with
  | str t =>
    obtain rfl := r2.str_inv
    simp only [inV] at hb
    split at hb
    · rename_i c
      obtain rfl := r1.str_inv
      have hb' : b = decide (c ∈ t) := by simpa using hb.symm
      subst hb'
      have e : (c.toNat ∈ (S2 t).cps.toList) = (c ∈ t) := by
        rw [S2_cps]
        apply propext
        constructor
        · intro z
          obtain ⟨d, hd, e⟩ := List.mem_map.mp z
          rw [← toNat_inj e]
          exact hd
        · exact fun z => List.mem_map_of_mem z
      have q := InIs.sign (X := X) (H := H) (x := .str (S2 [c])) (y := .str (S2 t)) c.toNat (S2 t) rfl rfl
      simp only [e] at q
      exact q
    · cases hb
  | tup ys =>
    obtain ⟨a, vs, rfl, hs, rl⟩ := r2.tup_inv
    simp only [inV] at hb
    obtain ⟨d, bs, e1, e2, rfl⟩ := in_seq (K := X.K) (m := m) (G := G) (H := H) hb
    obtain ⟨d3, d4⟩ := den_all (fun x v d r e => den_dp R _ x v d r e) ys vs bs rl e2
    exact .tup d bs (den_dp R _ _ _ _ r1 e1).1 (.tup (R.sub.sqT hs) d3) d4
  | ref n =>
    obtain ⟨rfl, hn⟩ := r2.ref_inv
    simp only [inV] at hb
    split at hb
    · rename_i ys ek
      obtain ⟨vs, hs, rl⟩ := R.lst ek
      obtain ⟨d, bs, e1, e2, rfl⟩ := in_seq (K := X.K) (m := m) (G := G) (H := H) hb
      obtain ⟨d3, d4⟩ := den_all (fun x v d r e => den_dp R _ x v d r e) ys vs bs rl e2
      exact .lst d bs (den_dp R _ _ _ _ r1 e1).1 (.lst (.inl (.inl hs)) d3) d4
    · rename_i ys ek
      obtain ⟨vs, hs, rl⟩ := R.frz ek
      obtain ⟨d, bs, e1, e2, rfl⟩ := in_seq (K := X.K) (m := m) (G := G) (H := H) hb
      obtain ⟨d3, d4⟩ := den_all (fun x v d r e => den_dp R _ x v d r e) ys vs bs rl e2
      exact .lst d bs (den_dp R _ _ _ _ r1 e1).1 (.lst hs d3) d4
    · rename_i kvs ek
      split at hb
      · rename_i hk
        have hb' : b = (lookK px kvs).isSome := by simpa using hb.symm
        subst hb'
        obtain ⟨o, g, e, _⟩ := dgets R ek r1 hk
        rw [← e]
        exact .dic _ o rfl g
      · split at hb
        · rename_i hz
          rw [Bool.and_eq_true] at hz
          have ek0 : kvs = [] := List.isEmpty_iff.mp hz.2
          subst ek0
          have hb' : b = false := by simpa using hb.symm
          subst hb'
          exact in_dit hw R r1 (.inr ⟨rfl, ek⟩) (by unfold tkAt tkFit; rw [hz.1]; rfl)
        · cases hb
    · rename_i kvs ek
      split at hb
      · rename_i hk
        have hb' : b = (lookK px kvs).isSome := by simpa using hb.symm
        subst hb'
        exact in_dit hw R r1 (.inl ek) hk
      · cases hb
    · cases hb
  | _ => simp [inV] at hb
theorem bR_parts {K : PySem.W.Frag} {m : Nat → Addr} {G H : Hp} {h : PH} {σ : St} {Q : VK} {o : Option Bool} (p : Post K CT (Rel K) W σ m G h.length Q (bR o h)) (R : HR K CT m G H h) : ∃ b, o = some b ∧ Q (.bl b) H := by
  cases o with
  | none => exact p.elim
  | some b => exact ⟨b, rfl, Post.now p R (.bl _)⟩
theorem nbR_parts {K : PySem.W.Frag} {m : Nat → Addr} {G H : Hp} {h : PH} {σ : St} {Q : VK} {o : Option Bool} (p : Post K CT (Rel K) W σ m G h.length Q (nbR o h)) (R : HR K CT m G H h) : ∃ b, o = some b ∧ Q (.bl (!b)) H := by
  cases o with
  | none => exact p.elim
  | some b => exact ⟨b, rfl, Post.now p R (.bl _)⟩
theorem op_C_in (hw : Hu X CT) : OpR X (compareOp .In) (rC X.K CT W .isin) := by
  intro pins s σ H x y v u Q I rx ry ⟨m, G, h, px, py, σ', R, r1, r2, p⟩
  obtain ⟨b, hb, q⟩ := bR_parts p R
  have hu := hw.u
  cases in_is hw.n R r1 r2 hb with
  | sign c z e1 e2 => exact op_in_sign pins s σ H _ _ v u Q I rx ry ⟨c, z, e1, e2, q⟩
  | tup d bs h1 h2 h3 =>
    obtain ⟨as, ra⟩ := Dp.reads I (toPy d) x v h1 rx
    obtain ⟨cs, rc⟩ := Dp.reads I (.tuple (toPys bs)) y u h2 ry
    refine SeqAt.in_tuple_reads rc ra (toPys_lay bs) (toPy_lay d) (room_in (by omega) hu) ⟨.bl _, H, I, rfl, ?_⟩
    rw [any_eq]
    exact q
  | lst d bs h1 h2 h3 =>
    obtain ⟨as, ra⟩ := Dp.reads I (toPy d) x v h1 rx
    obtain ⟨cs, rc⟩ := Dp.reads I (.list (toPys bs)) y u h2 ry
    refine SeqAt.in_list_reads rc ra (toPys_lay bs) (toPy_lay d) (room_in (by omega) hu) ⟨.bl _, H, I, rfl, ?_⟩
    rw [any_eq]
    exact q
  | dic a o e g =>
    subst e
    cases ry
    exact d_in (by omega) I g rx fun s3 I3 => ⟨.bl o.isSome, H, I3, rfl, q⟩
  | dit nh hn a b xs k e ex td hk hd =>
    subst e ex
    cases rx
    cases ry
    exact t_in (by omega) hn I td hk hd fun s3 I3 => ⟨.bl _, H, I3, rfl, q⟩
theorem op_C_notin (hw : Hu X CT) : OpR X (compareOp .NotIn) (rC X.K CT W .notin) := by
  intro pins s σ H x y v u Q I rx ry ⟨m, G, h, px, py, σ', R, r1, r2, p⟩
  obtain ⟨b, hb, q⟩ := nbR_parts p R
  have hu := hw.u
  cases in_is hw.n R r1 r2 hb with
  | sign c z e1 e2 => exact op_notIn_sign pins s σ H _ _ v u Q I rx ry ⟨c, z, e1, e2, q⟩
  | tup d bs h1 h2 h3 =>
    obtain ⟨as, ra⟩ := Dp.reads I (toPy d) x v h1 rx
    obtain ⟨cs, rc⟩ := Dp.reads I (.tuple (toPys bs)) y u h2 ry
    refine SeqAt.notIn_tuple_reads rc ra (toPys_lay bs) (toPy_lay d) (room_in (by omega) hu) ⟨.bl _, H, I, rfl, ?_⟩
    rw [any_eq]
    exact q
  | lst d bs h1 h2 h3 =>
    obtain ⟨as, ra⟩ := Dp.reads I (toPy d) x v h1 rx
    obtain ⟨cs, rc⟩ := Dp.reads I (.list (toPys bs)) y u h2 ry
    refine SeqAt.notIn_list_reads rc ra (toPys_lay bs) (toPy_lay d) (room_in (by omega) hu) ⟨.bl _, H, I, rfl, ?_⟩
    rw [any_eq]
    exact q
  | dic a o e g =>
    subst e
    cases ry
    exact d_notIn (by omega) I g rx fun s3 I3 => ⟨.bl (!o.isSome), H, I3, rfl, q⟩
  | dit nh hn a b xs k e ex td hk hd =>
    subst e ex
    cases rx
    cases ry
    exact t_notIn (by omega) hn I td hk hd fun s3 I3 => ⟨.bl _, H, I3, rfl, q⟩
theorem op_C (hw : Hu X CT) (o : COp) : OpR X (compareOp (coOp o)) (rC X.K CT W o) := by
  have hu := hw.u
  cases o
  · exact op_C_eq (by omega)
  · exact op_C_ne (by omega)
  · exact op_C_lt (by omega)
  · exact op_C_le
  · exact op_C_gt
  · exact op_C_ge
  · exact op_C_in hw
  · exact op_C_notin hw
  · exact op_C_is
  · exact op_C_isnot
theorem atI_get {α β : Type} {xs : List α} {vs : List β} {P : α → β → Prop} (hl : xs.length = vs.length) (hg : ∀ (j : Nat) (x : α), xs[j]? = some x → ∃ v, vs[j]? = some v ∧ P x v) {i : Int} {x : α} (e : atI xs i = some x) : ∃ v, L2.atI vs i = some v ∧ P x v := by
  unfold atI at e
  cases e1 : ixN xs.length i with
  | none => rw [e1] at e; cases e
  | some j =>
    rw [e1] at e
    obtain ⟨v, h1, h2⟩ := hg j x e
    refine ⟨v, ?_, h2⟩
    unfold L2.atI
    have e2 : L2.ixN vs.length i = some j := by rw [← hl]; exact e1
    rw [e2]
    exact h1
theorem oneR_parts {α β : Type} {K : PySem.W.Frag} {rel : (Nat → Addr) → Nat → Hp → α → β → Prop} {m : Nat → Addr} {G H : Hp} {h : PH} {σ : St} {Q : β → Hp → Prop} {o : Option α} (p : Post K CT rel W σ m G h.length Q (oneR o h)) (R : HR K CT m G H h) : ∃ a, o = some a ∧ ∀ b, rel m h.length G a b → Q b H := by
  cases o with
  | none => exact p.elim
  | some a => exact ⟨a, rfl, fun b r => Post.now p R r⟩
def rX (K : PySem.W.Frag) (CT : Cts) (W : WX) : R2 := fun x y H Q => ∃ m G h px py σ, HR K CT m G H h ∧ Rel K m h.length G px x ∧ Rel K m h.length G py y ∧ Post K CT (Rel K) W σ m G h.length Q (idxV px py h)
theorem ix_all (hw : Hu X CT) : IxR X (rX X.K CT W) := by
  have hu : X.A.units + 1 < cLine := by have := hw.u; omega
  intro value slice pins s σ H x y v u Q I rx ry ⟨m, G, h, px, py, σ', R, r1, r2, p⟩ hs
  unfold idxV at p
  split at p
  · rename_i xs
    obtain ⟨a, vs, rfl, hsq, rl⟩ := r1.tup_inv
    split at p
    · rename_i i
      obtain rfl := r2.int_inv
      obtain ⟨w, e, q⟩ := oneR_parts p R
      obtain ⟨z, e2, r3⟩ := atI_get rl.length (fun j x q => rl.get q) e
      exact ix_tup value slice pins s σ H _ _ v u Q I rx ry ⟨a, vs, i, z, rfl, rfl, R.sub.sqT hsq, e2, q z r3⟩ hs
    · exact p.elim
  · rename_i t
    obtain rfl := r1.str_inv
    split at p
    · rename_i i
      obtain rfl := r2.int_inv
      split at p
      · rename_i hl
        obtain ⟨w, e, q⟩ := oneR_parts p R
        cases e3 : atI t i with
        | none => rw [e3] at e; cases e
        | some c =>
          rw [e3] at e
          have ew : w = .str [c] := by simpa using e.symm
          subst ew
          obtain ⟨z, e2, r3⟩ := atI_get (vs := t.map Char.toNat) (P := fun c n => n = c.toNat) (by rw [List.length_map]) (fun j x q => ⟨x.toNat, by rw [List.getElem?_map, q]; rfl, rfl⟩) e3
          subst r3
          exact ix_str value slice pins s σ H _ _ v u Q I rx ry ⟨_, i, c.toNat, rfl, rfl, by rw [S2_len, ← szl_eq]; exact hl, by rw [S2_cps]; exact e2, q _ (.str [c])⟩ hs
      · exact p.elim
    · exact p.elim
  · rename_i n
    obtain ⟨rfl, hn⟩ := r1.ref_inv
    split at p
    · rename_i xs ek
      obtain ⟨vs, hsq, rl⟩ := R.lst ek
      split at p
      · rename_i i
        obtain rfl := r2.int_inv
        obtain ⟨w, e, q⟩ := oneR_parts p R
        obtain ⟨z, e2, r3⟩ := atI_get rl.length (fun j x q => rl.get q) e
        exact ix_list value slice pins s σ H _ _ v u Q I rx ry ⟨_, vs, i, z, rfl, rfl, .inl (.inl hsq), e2, q z r3⟩ hs
      · exact p.elim
    · rename_i xs ek
      obtain ⟨vs, hsq, rl⟩ := R.frz ek
      split at p
      · rename_i i
        obtain rfl := r2.int_inv
        obtain ⟨w, e, q⟩ := oneR_parts p R
        obtain ⟨z, e2, r3⟩ := atI_get rl.length (fun j x q => rl.get q) e
        exact ix_list value slice pins s σ H _ _ v u Q I rx ry ⟨_, vs, i, z, rfl, rfl, hsq, e2, q z r3⟩ hs
      · exact p.elim
    · rename_i kvs ek
      split at p
      · rename_i hk
        obtain ⟨w, e, q⟩ := oneR_parts p R
        obtain ⟨o, g, _, hw⟩ := dgets R ek r2 hk
        obtain ⟨z, e2, r3⟩ := hw w e
        subst e2
        cases rx
        exact PyProof.Rows.tail_any (dict_typeIs I g) PySem.F.slot_dict_getitem.lookup (d_getItem hu I g ry fun w' s3 I3 rw' => ⟨z, H, I3, rw', q z r3⟩) hs
      · exact p.elim
    · rename_i kvs ek
      split at p
      · rename_i hk
        unfold tkAt at hk
        rw [Bool.and_eq_true] at hk
        obtain ⟨w, e, q⟩ := oneR_parts p R
        obtain ⟨xs, td, rl⟩ := td_of R (.inl ek)
        obtain ⟨b, rfl⟩ := tkOk_ref hk.1 r2
        obtain ⟨z, e2, r3⟩ := (relT_look hk.1 hk.2 rl).1 w e
        cases rx
        cases ry
        exact PyProof.Rows.tail_any (t_typeIs I hw.n td) PySem.F.slot_dict_getitem.lookup (t_getItem (by have := hw.u; omega) hw.n I td (rel_key R.sub 8 (tkOk_in hk.1) r2) (nk_depth 8 py (tkOk_in hk.1)) e2 fun w' s3 I3 rw' => ⟨z, H, I3, rw', q z r3⟩) hs
      · exact p.elim
    · exact p.elim
  · exact p.elim
theorem cut_rel {K : PySem.W.Frag} {m : Nat → Addr} {N : Nat} {G : Hp} {xs : List PV} {vs : List V} (r : RelL K m N G xs vs) (lo hi : Option Int) : RelL K m N G (cutL xs lo hi) (cutV vs lo hi) := by
  have e := r.length
  unfold cutL cutV
  have e1 : ∀ n d o, HT.sIx n d o = sIx n d o := fun n d o => by cases o <;> rfl
  rw [e1, e1, ← e]
  exact (r.drop _).take _
def rS (K : PySem.W.Frag) (CT : Cts) (W : WX) : V → Option Int → Option Int → Hp → VK → Prop := fun x lo hi H Q => ∃ m G h px σ, HR K CT m G H h ∧ Rel K m h.length G px x ∧ Post K CT (Rel K) W σ m G h.length Q (slcV px lo hi h)
theorem sl_all : SlR X (rS X.K CT W) := by
  intro pins s σ H x v vl vu lo hi sl Q I rx hs pl pu ⟨m, G, h, px, σ', R, r1, p⟩
  unfold slcV at p
  split at p
  · rename_i xs
    obtain ⟨a, vs, rfl, hsq, rl⟩ := r1.tup_inv
    refine sl_tupA pins s σ H _ v vl vu lo hi sl Q I rx hs pl pu ⟨a, vs, rfl, R.sub.sqT hsq, fun e => ?_, fun _ q hq => ?_⟩
    · have e1 : ∀ n d o, HT.sIx n d o = sIx n d o := fun n d o => by cases o <;> rfl
      rw [e1, e1, ← rl.length] at e
      have e2 : cutL xs lo hi = xs := by
        unfold cutL
        rw [e.1, e.2]
        simp
      rw [e2] at p
      exact Post.now p R (.tup hsq rl)
    · exact Post.newT p R (cut_rel rl lo hi) hq
  · rename_i t
    obtain rfl := r1.str_inv
    split at p
    · rename_i hl
      refine sl_str pins s σ H _ v vl vu lo hi sl Q I rx hs pl pu ⟨_, rfl, by rw [S2_len, ← szl_eq]; exact hl, ?_⟩
      have e : cutS (S2 t) lo hi = S2 (cutL t lo hi) := by
        unfold cutS cutL
        have e1 : ∀ n d o, HT.sIx n d o = sIx n d o := fun n d o => by cases o <;> rfl
        rw [e1, e1, S2_len, S2_cps, ← List.map_drop, ← List.map_take]
      rw [e]
      exact Post.now p R (.str _)
    · exact p.elim
  · rename_i n
    obtain ⟨rfl, hn⟩ := r1.ref_inv
    split at p
    · rename_i xs ek
      obtain ⟨vs, hsq, rl⟩ := R.lst ek
      exact sl_list pins s σ H _ v vl vu lo hi sl Q I rx hs pl pu ⟨_, vs, rfl, .inl (.inl hsq), fun q hq => Post.newL p R (cut_rel rl lo hi) hq⟩
    · rename_i xs ek
      obtain ⟨vs, hsq, rl⟩ := R.frz ek
      exact sl_list pins s σ H _ v vl vu lo hi sl Q I rx hs pl pu ⟨_, vs, rfl, hsq, fun q hq => Post.newL p R (cut_rel rl lo hi) hq⟩
    · exact p.elim
  · exact p.elim
theorem tru_ok {m : Nat → Addr} {G H : Hp} {h : PH} {px : PV} {x : V} {b : Bool} {K : PySem.W.Frag} (R : HR K CT m G H h) (r : Rel K m h.length G px x) (e : tru px h = some b) : TruV K x H b := by
  cases px with
  | non => obtain rfl := r.non_inv; simpa [tru, TruV] using e.symm
  | bl c => obtain rfl := r.bl_inv; simpa [tru, TruV] using e.symm
  | int i => obtain rfl := r.int_inv; simpa [tru, TruV] using e.symm
  | str s =>
    obtain rfl := r.str_inv
    simp only [tru] at e
    split at e
    · rename_i hl
      refine ⟨by rw [S2_len, ← szl_eq]; exact hl, ?_⟩
      have e' : b = (s.length != 0) := by simpa using e.symm
      rw [e', S2_len]
      cases s <;> simp
      all_goals omega
    · cases e
  | tup xs =>
    obtain ⟨a, vs, rfl, hs, rl⟩ := r.tup_inv
    refine .inr (.inl ⟨vs, R.sub.sqT hs, ?_⟩)
    have e' : b = !xs.isEmpty := by simpa [tru] using e.symm
    rw [e']
    cases rl <;> rfl
  | ref n =>
    obtain ⟨rfl, hn⟩ := r.ref_inv
    simp only [tru] at e
    split at e
    · rename_i xs ek
      obtain ⟨vs, hs, rl⟩ := R.lst ek
      refine .inl ⟨vs, .inl (.inl hs), ?_⟩
      have e' : b = !xs.isEmpty := by simpa using e.symm
      rw [e']
      cases rl <;> rfl
    · rename_i xs ek
      obtain ⟨vs, hs, rl⟩ := R.frz ek
      refine .inl ⟨vs, hs, ?_⟩
      have e' : b = !xs.isEmpty := by simpa using e.symm
      rw [e']
      cases rl <;> rfl
    · rename_i kvs ek
      obtain ⟨ks, hs, rd⟩ := R.dic ek
      refine .inr (.inr ⟨ks, hs, ?_⟩)
      have e' : b = !kvs.isEmpty := by simpa using e.symm
      rw [e']
      cases kvs <;> cases ks <;> first | rfl | exact rd.elim
    · cases e
theorem truR_parts {K : PySem.W.Frag} {m : Nat → Addr} {G H : Hp} {h : PH} {σ : St} {Q : Bool → Hp → Prop} {v : PV} (p : Post K CT relB W σ m G h.length Q (truR v h)) (R : HR K CT m G H h) : ∃ b, tru v h = some b ∧ Q b H := by
  unfold truR at p
  cases e : tru v h with
  | none => rw [e] at p; exact p.elim
  | some b => rw [e] at p; exact ⟨b, rfl, Post.now p R rfl⟩
end
end Mi
set_option Elab.async false
set_option linter.all false
set_option maxRecDepth 100000
namespace Mi
open PySem PySem.Spec PyProof.Rows L2
/-- the def at f keeps the promise sp, at a place with room where no repr runs -/
structure FnG (P : Program) (w : World) (K : PySem.W.Frag) (mg : Str → Option Value) (base : Heap) (k : Nat) (f : Addr) (fd : FuncData) (ps : List Str) (sp : Sp) : Prop where
  ar : ∀ vs H Q E, sp vs H Q E → vs.length = ps.length
  go : ∀ (A : Around) (out : List PySem.Env) (s : Shared) (H : Hp) (args : Args) (us : List Value) (vs : List V) (Q : VK) (E : XK), Room k A → A.guards = some [] → Env0 P w K mg base A out s H → BindsTo s fd args (ps.zip us) → Vals vs us → sp vs H Q E →
    codeAny (model P w) A (.call (.ref f) args) (CR (L2.CX P w) out P w H s Q E) s
theorem FnG.more {P : Program} {w : World} {K : PySem.W.Frag} {mg : Str → Option Value} {base : Heap} {j k : Nat} {f : Addr} {fd : FuncData} {ps : List Str} {sp : Sp} (F : FnG P w K mg base j f fd ps sp) (h : j ≤ k) : FnG P w K mg base k f fd ps sp :=
  ⟨F.ar, fun A out s H args us vs Q E hr => F.go A out s H args us vs Q E (hr.mono h)⟩
theorem FnG.none {P : Program} {w : World} {K : PySem.W.Frag} {mg : Str → Option Value} {base : Heap} {k : Nat} {f : Addr} {fd : FuncData} {ps : List Str} {sp : Sp} (h : ∀ vs H Q E, ¬ sp vs H Q E) : FnG P w K mg base k f fd ps sp :=
  ⟨fun vs H Q E z => (h _ _ _ _ z).elim, fun A out s H args us vs Q E _ _ _ _ _ z => (h _ _ _ _ z).elim⟩
section
variable {P : Program} {w : World} {K : PySem.W.Frag} {mg : Str → Option Value} {base : Heap}
/-- from its body -/
theorem fnG_of {x qual : Str} {st : Stmt} {f : Addr} {fd : FuncData} {NN ps : List Str} {k : Nat} {sp : Sp} (F : Fun K x qual st f fd) (S : FnScope NN ps (defScope st)) (ar : ∀ vs H Q E, sp vs H Q E → vs.length = ps.length)
    (hb : ∀ (cdv : Value) (A : Around) (out : List PySem.Env) (s : Shared) (H : Hp) (vs : List V) (Q : VK) (E : XK), Room k (A.deeper (envOfC qual (defScope st) s.heap.objs.size f cdv)) → A.guards = some [] → sp vs H Q E →
      ∃ t, PSs (cxOf (L2.CX P w) P w K mg base NN qual (defScope st) f cdv A out s H E) (defBody st) t ∧ t { nx := fun _ H' => Q .non H', rt := Q } (start NN vs) H) : FnG P w K mg base (k + 1) f fd ps sp := by
  obtain ⟨oc, od, kV, doc, pm, an, cdv, ct, osl, rfl, lk, hcd⟩ := F.ex
  refine ⟨ar, fun A out s H args us vs Q E hr hg e0 hbd r hsp => ?_⟩
  -- the written part and the limit, in the heap at hand
  have inK := e0.mod.kin.keeps (fun b o e => (e0.bs b o e).1)
  have noLim := e0.mod.nolimit.keeps (fun b o e => (e0.bs b o e).1)
  have kinds : ∀ y ∈ ps.zip us, (defScope st).names.lookup y.1 = some .local ∨ ((defScope st).names.lookup y.1 = some .cell ∧ ((cellsFrom (s.heap.objs.size + 1) (defScope st).names []).lookup y.1).isSome = true) := by
    rintro ⟨n, v⟩ hy
    have hn : n ∈ ps := (List.of_mem_zip hy).1
    cases S.par n hn with
    | inl q => exact .inl q
    | inr q => exact .inr ⟨q, PySem.W.cellsFrom_some _ _ _ (.inl q)⟩
  refine codeAny_call_function hr.depth (inK _ _ lk) rfl S.co S.gen rfl (PySem.W.codeRec_of inK hcd) (hbd _ _ _ _ ?_)
  refine wpAny_newFunctionEnv_cells S.kind kinds fun env he s1 x => ?_
  subst he
  refine ⟨noLim.keeps x.toInCall.keep, codeAny_func ?_⟩
  obtain ⟨t, ht, hq⟩ := hb cdv A out s H vs Q E (hr.deeper _) hg hsp
  have I0 := inv_start (CX := L2.CX P w) (E := E) S hr.hd e0 (ar _ _ _ _ hsp) r x
  refine wpAny_mono (ht.run [] s1 (start NN vs) H _ I0 hq) (fun fl s' hs => ?_) (fun e s' hs => hs)
  cases fl with
  | ret u =>
    obtain ⟨v, σ', H', J, rv, q⟩ := hs
    exact ⟨v, H', J.os, J.bare, J.base, J.hok, rv, q⟩
  | next =>
    obtain ⟨σ', H', J, q⟩ := hs
    exact ⟨V.non, H', J.os, J.bare, J.base, J.hok, rfl, q⟩
  | brk =>
    obtain ⟨_, _, _, z⟩ := hs
    exact False.elim z
  | cont =>
    obtain ⟨_, _, _, z⟩ := hs
    exact False.elim z
end
def spI (K : PySem.W.Frag) (CT : Cts) (cl : Cl) (f : FN) : Sp := fun vs H Q E =>
  ∃ m G h pvs, HR K CT m G H h ∧ RelL K m h.length G pvs vs ∧ Post K CT (Rel K) (fun cls d _ H' => E cls d H') [] m G h.length Q (cl f pvs h)
/-- which def: where it stands, how its arguments bind; and that it keeps its promise at room k -/
structure Cal (P : Program) (w : World) (K : PySem.W.Frag) (mg : Str → Option Value) (base : Heap) (CT : Cts) (cl : Cl) (k : Nat) (f : FN) (a : Addr) : Prop where
  ex : ∃ fd ps, FnG P w K mg base k a fd ps (spI K CT cl f) ∧ Binds K fd ps []
section
variable {X : Cx} {CT : Cts} {cl : Cl} {W : WX} {k : Nat} {f : FN} {a : Addr}
theorem Post.slots {α β : Type} {K : PySem.W.Frag} {rel : (Nat → Addr) → Nat → Hp → α → β → Prop} {m : Nat → Addr} {G : Hp} {N : Nat} {σ σ' : L2.St} {W W' : WX} {Q : β → Hp → Prop} {r : R α} (p : Post K CT rel W σ m G N Q r) (e : ∀ c d H, W c d σ H → W' c d σ' H) : Post K CT rel W' σ' m G N Q r := by
  cases r with
  | ok a h' => exact p
  | exc x h' => exact fun m' G' H' cls d e1 e2 e3 e4 => e _ _ _ (p m' G' H' cls d e1 e2 e3 e4)
  | bad => exact p
/-- a call of it, its arguments at hand -/
theorem run_cal (F : Cal X.prog X.w X.K X.mg X.base CT cl k f a) (hr : Room k X.A) (hg : X.A.guards = some []) (tk : Takes X W) {pins : List (Addr × Obj)} {σ : L2.St} {H : Hp} {s : Shared} {Q : VK} {us : List Value} {vs : List V} {m : Nat → Addr} {G : Hp} {h : PH} {pvs : List PV}
    (I : Inv X pins σ H s) (r : Vals vs us) (R : HR X.K CT m G H h) (rl : RelL X.K m h.length G pvs vs) (p : Post X.K CT (Rel X.K) W σ m G h.length Q (cl f pvs h)) : wpAny (model X.prog X.w) X.A (call (.ref a) us) (EP X pins σ Q) X.xe s := by
  obtain ⟨fd, ps, F, hb⟩ := F.ex
  have hsp : spI X.K CT cl f vs H Q (fun cls d H' => W cls d σ H') := ⟨m, G, h, pvs, R, rl, p.slots fun _ _ _ z => z⟩
  have hl : us.length = ps.length := by rw [← r.length]; exact F.ar _ _ _ _ hsp
  have hbd : BindsTo s fd ⟨us, []⟩ (ps.zip us) := by
    have q := hb s us I.kIn (by rw [List.append_nil]; exact hl)
    rw [List.append_nil] at q
    exact q
  refine wpAny_call (codeAny_mono (F.go X.A X.stack s H ⟨us, []⟩ us vs Q _ hr hg I.env0 hbd r hsp) fun r s' hq => ?_)
  cases r with
  | error e => exact tk e s' (XE.of_call I (fun _ _ _ z => z) hq)
  | ok fl =>
    cases fl with
    | ret u => exact I.after hq
    | next => exact False.elim hq
    | brk => exact False.elim hq
    | cont => exact False.elim hq
theorem I_call {g : String} {x : Str} {p pos : Pos} {e : Expr} {es : List Expr} {cs : List E} (hcl : GroC cl) (F : Cal X.prog X.w X.K X.mg X.base CT cl k (.f g) a) (hr : Room k X.A) (hgd : X.A.guards = some []) (tk : Takes X W) (hg : Gl X x) (hm : X.mg x = some (.ref a)) (hk : PySem.W.keepIn X.K (.ref a) = true)
    (ha : PA X (e :: es) (tA X.K CT cl W cs)) (hdb : (x == ("__debug__" : Str)) = false) (he : starEach (e :: es) X.env = (false, eval e X.env) :: starEach es X.env) (hpl : (backTo pos (starEach es X.env)).any (·.1) = false) :
    PE X (.Call (.Name x p) (e :: es) [] pos) (tE X.K CT cl W (.call g cs)) := by
  refine ⟨fun pins s σ H Q I ⟨m, G, h, ρ, R, sr, q⟩ => ?_⟩
  simp only [ev] at q
  refine wpAny_Call_Name_kw (ld_glob I hg hm ?_ hdb)
  refine PySem.W.callWith_K (h₀ := X.base) I.ok.mod.kin hk (thn (ha.run pos pins s σ H _ I (tA_first (Q1 := fun vs H1 => ∃ m1 G1 h1 pvs, HR X.K CT m1 G1 H1 h1 ∧ RelL X.K m1 h1.length G1 pvs vs ∧ Post X.K CT (Rel X.K) W σ m1 G1 h1.length Q (cl (.f g) pvs h1)) hcl R sr q
    fun x v h1 m1 G1 H1 _ _ _ R1 _ rl q1 => ⟨m1, G1, h1, x, R1, rl, q1⟩)) fun us s1 ⟨vs, H1, I1, r, m1, G1, h1, pvs, R1, rl, q1⟩ => ⟨I1.kIn, ?_⟩) he hpl
  exact run_cal F hr hgd tk I1 r R1 rl q1
/-- the methods m of the classes cs: where they stand, that they keep their promises -/
structure Mto (P : Program) (w : World) (K : PySem.W.Frag) (mg : Str → Option Value) (base : Heap) (CT : Cts) (cl : Cl) (k : Nat) (m : String) (cs : List String) : Prop where
  ex : ∀ c, c ∈ cs → ∀ C, CT.ins c C → ∃ g, Cls K C ∧ Meth K C (Str.ofString m) g ∧ Cal P w K mg base CT cl k (.m c m) g
theorem look_rel {K : PySem.W.Frag} {m : Nat → Addr} {N : Nat} {G : Hp} {f : String} : ∀ {fs : List (String × PV)} {gs : List (Str × V)}, RelF K m N G fs gs → (∀ x, fs.lookup f = some x → ∃ v, gs.lookup (Str.ofString f) = some v ∧ Rel K m N G x v) ∧ (fs.lookup f = none → gs.lookup (Str.ofString f) = none)
  | [], [], _ => ⟨fun x e => (by cases e), fun _ => rfl⟩
  | (g, x) :: r, (g', v) :: t, ⟨e, rx, rr⟩ => by
    obtain ⟨i1, i2⟩ := look_rel (f := f) rr
    subst e
    by_cases hf : f = g
    · subst hf
      refine ⟨fun y q => ?_, fun q => ?_⟩
      · obtain rfl : x = y := by simpa [List.lookup] using q
        exact ⟨v, by simp [List.lookup], rx⟩
      · simp [List.lookup] at q
    · have h1 : (f == g) = false := by simpa using hf
      have h2 : (Str.ofString f == Str.ofString g) = false := by
        rw [beq_eq_false_iff_ne]
        exact fun z => hf (ofString_inj z)
      refine ⟨fun y q => ?_, fun q => ?_⟩
      · simp only [List.lookup, h1] at q
        simp only [List.lookup, h2]
        exact i1 y q
      · simp only [List.lookup, h1] at q
        simp only [List.lookup, h2]
        exact i2 q
end
end Mi
set_option Elab.async false
set_option linter.all false
set_option maxRecDepth 100000
namespace Mi
open PySem PySem.Spec PyProof.Rows L2
section
variable {X : Cx} {CT : Cts} {cl : Cl} {W : WX} {k : Nat} {a : Addr} {e e1 e2 e3 : Expr} {es : List Expr} {c c1 c2 c3 : E} {cs : List E} {pos apos p : Pos}
theorem I_fld {f : String} {x : Str} (hx : x = Str.ofString f) (hcl : GroC cl) (cls : ∀ c C, CT.ins c C → Cls X.K C ∧ NoAttr X.K C x) (exc : ∀ c C, CT.exc c C → XfC X.K C ∧ PySem.W.findIn X.K (.ref C) x = some none) (he : PE X e (tE X.K CT cl W c)) (hb : attributeBase e x X.env (eval e X.env) = eval e X.env) : PE X (.Attribute e x pos) (tE X.K CT cl W (.fld c f)) := by
  subst hx
  refine PEimp (pe_fldE he hb) fun σ H Q ⟨m, G, h, ρ, R, s, q⟩ => ?_
  simp only [ev] at q
  refine tE_first hcl R s q fun x v h1 m1 G1 H1 _ _ _ R1 _ r q1 => ?_
  unfold fldV at q1
  split at q1
  · rename_i n
    obtain ⟨rfl, hn⟩ := r.ref_inv
    split at q1
    · rename_i c0 fs ek
      obtain ⟨C, dx, gs, ct, hH, rf⟩ := R1.ins ek
      obtain ⟨y, ey, q2⟩ := oneR_parts q1 R1
      obtain ⟨w, ew, rw'⟩ := (look_rel rf).1 y ey
      exact .inl ⟨_, C, dx, gs, w, rfl, hH, (cls c0 C ct).1, (cls c0 C ct).2, ew, q2 w rw'⟩
    · rename_i c0 fs ek
      obtain ⟨C, d, ct, hG, hf⟩ := R1.obj n _ ek
      obtain ⟨y, ey, q2⟩ := oneR_parts q1 R1
      rcases hf with ⟨e0, _⟩ | ⟨dd, gs, rfl, h2, rf⟩
      · rw [e0] at ey
        cases ey
      · obtain ⟨w, ew, rw'⟩ := (look_rel rf).1 y ey
        exact .inr ⟨_, C, dd, gs, w, rfl, R1.sub _ _ hG, R1.sub _ _ h2, (exc c0 C ct).1, (exc c0 C ct).2, ew, q2 w rw'⟩
    · exact q1.elim
  · exact q1.elim
theorem cls_of {o : PV} {f c : String} {ks : List String} {h : PH} (e : clsOf o f ks h = some c) : ∃ n fs, o = .ref n ∧ h[n]? = some (.ins c fs) ∧ fs.lookup f = none ∧ c ∈ ks := by
  unfold clsOf at e
  split at e
  · rename_i n
    split at e
    · rename_i c0 fs ek
      split at e
      · rename_i hl
        obtain rfl : c0 = c := by simpa using e
        exact ⟨n, fs, rfl, ek, hl.1, hl.2⟩
      · cases e
    · cases e
  · cases e
/-- o.m(e, ..) of an own class -/
theorem I_mto {m : String} {ks : List String} {x : Str} {pl : Sem Bool} (hx : x = Str.ofString m) (hcl : GroC cl) (M : Mto X.prog X.w X.K X.mg X.base CT cl k m ks) (hr : Room k X.A) (hgd : X.A.guards = some []) (tk : Takes X W) (ho : PE X e1 (tE X.K CT cl W c)) (ha : PA X (e :: es) (tA X.K CT cl W cs))
    (hst : starEach (e :: es) X.env = (false, eval e X.env) :: starEach es X.env) (hpl : (backTo pos (starEach es X.env)).any (·.1) = false)
    (ht : eval (.Call (.Attribute e1 x apos) (e :: es) [] pos) X.env = (do
      let ov ← eval e1 X.env
      standAt apos.atName
      let (f, first) ← holding [ov] (getMethod ov x pl)
      callWith pos f first (backTo pos (starEach (e :: es) X.env)) (backToKw pos (keywordEach [] X.env)))) :
    PE X (.Call (.Attribute e1 x apos) (e :: es) [] pos) (tE X.K CT cl W (.mto m ks c cs)) := by
  subst hx
  refine ⟨fun pins s σ H Q I ⟨m0, G, h, ρ, R, sr, q⟩ => ?_⟩
  simp only [ev] at q
  refine PySem.W.methodCall_KW (pl := pl) (thn (ho.run pins s σ H _ I (tE_first (Q1 := fun v H1 => ∃ m1 G1 h1 px, HR X.K CT m1 G1 H1 h1 ∧ SR X.K m1 h1.length G1 ρ σ ∧ Rel X.K m1 h1.length G1 px v ∧ Post X.K CT (Rel X.K) W σ m1 G1 h1.length Q (match clsOf px m ks h1 with
    | some c => (evs cl cs ρ h1).bind fun vs h2 => cl (.m c m) (px :: vs) h2
    | none => .bad)) hcl R sr q fun x v h1 m1 G1 H1 _ _ _ R1 s1 r q1 => ⟨m1, G1, h1, x, R1, s1, r, q1⟩)) fun u s1 ⟨v, H1, I1, rv, m1, G1, h1, px, R1, sr1, r1, q1⟩ => ?_) ht
  split at q1
  · rename_i c0 hc0
    obtain ⟨n, fs, rfl, ek, hl, hk⟩ := cls_of hc0
    obtain ⟨rfl, hn⟩ := r1.ref_inv
    cases rv
    obtain ⟨C, dx, gs, ct, hH, rf⟩ := R1.ins ek
    obtain ⟨g, hc, hm, F⟩ := M.ex c0 hk C ct
    refine getmeth_ok I1 hH hc hm ((look_rel rf).2 hl) ?_
    refine PySem.W.callWith_K (first := [.ref (m1 n)]) (h₀ := X.base) I1.ok.mod.kin hm.kp (thn (ha.run pos pins s1 σ H1 _ I1 (tA_first (Q1 := fun vs H2 => ∃ m2 G2 h2 pvs, HR X.K CT m2 G2 H2 h2 ∧ RelL X.K m2 h2.length G2 (.ref n :: pvs) (.ref (m1 n) :: vs) ∧ Post X.K CT (Rel X.K) W σ m2 G2 h2.length Q (cl (.m c0 m) (.ref n :: pvs) h2)) hcl R1 sr1 q1
      fun x v h2 m2 G2 H2 ex sg le R2 _ rl q2 => ⟨m2, G2, h2, x, R2, .cons (r1.mono ex le sg) rl, q2⟩)) fun us s2 ⟨vs, H2, I2, r, m2, G2, h2, pvs, R2, rl, q2⟩ => ⟨I2.kIn, ?_⟩) hst hpl
    exact run_cal (us := .ref (m1 n) :: us) (vs := .ref (m1 n) :: vs) F hr hgd tk I2 (.cons rfl r) R2 rl q2
  · exact q1.elim
/-- o.f, a property of an own class -/
structure Prp (P : Program) (w : World) (K : PySem.W.Frag) (mg : Str → Option Value) (base : Heap) (CT : Cts) (cl : Cl) (k : Nat) (f : String) (cs : List String) : Prop where
  ex : ∀ c, c ∈ cs → ∀ C, CT.ins c C → ∃ pr g, Cls K C ∧ PropOf K C (Str.ofString f) pr g ∧ Cal P w K mg base CT cl k (.m c f) g
theorem Post.nox {α β : Type} {K : PySem.W.Frag} {rel : (Nat → Addr) → Nat → Hp → α → β → Prop} {m : Nat → Addr} {G : Hp} {N : Nat} {σ σ' : L2.St} {W W' : WX} {Q : β → Hp → Prop} {r : R α} (p : Post K CT rel W σ m G N Q (nox r)) : Post K CT rel W' σ' m G N Q r := by
  cases r with
  | ok a h' => exact p
  | exc x h' => exact p.elim
  | bad => exact p
end
end Mi
set_option Elab.async false
set_option linter.all false
set_option maxRecDepth 100000
namespace Mi
open PySem PySem.Spec PyProof.Rows L2
section
variable {X : Cx} {CT : Cts} {cl : Cl} {W : WX} {k : Nat} {a : Addr} {e e1 e2 e3 : Expr} {es : List Expr} {c c1 c2 c3 : E} {cs : List E} {pos apos p : Pos}
/-- two parts, then an operator by values -/
theorem two_first {rr : R2} {f : PV → PV → PH → R PV} {σ : L2.St} {H : Hp} {Q : VK} {m : Nat → Addr} {G : Hp} {h : PH} {ρ : Mi.Env} (hcl : GroC cl) (R : HR X.K CT m G H h) (s : SR X.K m h.length G ρ σ)
    (q : Post X.K CT (Rel X.K) W σ m G h.length Q ((ev cl c1 ρ h).bind fun x h1 => (ev cl c2 ρ h1).bind fun y h2 => f x y h2))
    (hr : ∀ x y H2 Q, (∃ m G h px py σ, HR X.K CT m G H2 h ∧ Rel X.K m h.length G px x ∧ Rel X.K m h.length G py y ∧ Post X.K CT (Rel X.K) W σ m G h.length Q (f px py h)) → rr x y H2 Q) : tOp rr (tE X.K CT cl W c1) (tE X.K CT cl W c2) σ H Q :=
  tE_first hcl R s q fun x v h1 m1 G1 H1 _ _ _ R1 s1 r1 q1 => tE_first hcl R1 s1 q1 fun y u h2 m2 G2 H2 ex sg le R2 s2 r2 q2 => hr _ _ _ _ ⟨m2, G2, h2, x, y, σ, R2, r1.mono ex le sg, r2, q2⟩
theorem I_bop {o : BOp} {op : Operator} (ho : op = boOp o) (hcl : GroC cl) (h1 : PE X e1 (tE X.K CT cl W c1)) (h2 : PE X e2 (tE X.K CT cl W c2)) : PE X (.BinOp e1 op e2 pos) (tE X.K CT cl W (.bop o c1 c2)) := by
  subst ho
  refine PEimp (pe_op (op_B (CT := CT) (W := W) o) h1 h2) fun σ H Q ⟨m, G, h, ρ, R, s, q⟩ => ?_
  simp only [ev] at q
  exact two_first hcl R s q fun _ _ _ _ z => z
theorem I_cmp {o : COp} {op : CmpOp} (ho : op = coOp o) (hu : Hu X CT) (hcl : GroC cl) (h1 : PE X e1 (tE X.K CT cl W c1)) (h2 : PE X e2 (tE X.K CT cl W c2)) (hm : behindInMarks op e2 = false) : PE X (.Compare e1 [op] [e2] pos) (tE X.K CT cl W (.cmp o c1 c2)) := by
  subst ho
  refine PEimp (pe_cmpR (op_C (CT := CT) (W := W) hu o) h1 h2 hm) fun σ H Q ⟨m, G, h, ρ, R, s, q⟩ => ?_
  simp only [ev] at q
  exact two_first hcl R s q fun _ _ _ _ z => z
theorem I_idx (hu : Hu X CT) (hcl : GroC cl) (h1 : PE X e1 (tE X.K CT cl W c1)) (h2 : PE X e2 (tE X.K CT cl W c2)) (hs : PlainIx e2) : PE X (.Subscript e1 e2 pos) (tE X.K CT cl W (.idx c1 c2)) := by
  refine PEimp (pe_ix (ix_all (CT := CT) (W := W) hu) h1 h2 hs) fun σ H Q ⟨m, G, h, ρ, R, s, q⟩ => ?_
  simp only [ev] at q
  exact two_first hcl R s q fun _ _ _ _ z => z
theorem I_part0 : L2.PO X none (tO X.K CT cl W none) := ⟨fun pins s σ H Q I ⟨m, G, h, ρ, R, sr, q⟩ => by
  simp only [evo] at q
  exact po_none.run pins s σ H Q I (Post.now q R rfl)⟩
theorem I_part (hcl : GroC cl) (h1 : PE X e1 (tE X.K CT cl W c1)) : L2.PO X (some e1) (tO X.K CT cl W (some c1)) := ⟨fun pins s σ H Q I ⟨m, G, h, ρ, R, sr, q⟩ => by
  simp only [evo] at q
  refine (po_some h1).run pins s σ H Q I (tE_first hcl R sr q fun x v h1 m1 G1 H1 _ _ _ R1 s1 r1 q1 => ?_)
  split at q1
  · obtain rfl := r1.int_inv
    exact ⟨_, rfl, Post.now q1 R1 rfl⟩
  · exact q1.elim⟩
theorem I_slc {lo hi : Option Expr} {c2 c3 : Option E} {p2 : Pos} (hcl : GroC cl) (h1 : PE X e1 (tE X.K CT cl W c1)) (h2 : L2.PO X lo (tO X.K CT cl W c2)) (h3 : L2.PO X hi (tO X.K CT cl W c3)) : PE X (.Subscript e1 (.Slice lo hi none p2) pos) (tE X.K CT cl W (.slc c1 c2 c3)) := by
  refine PEimp (pe_slice (sl_all (CT := CT) (W := W)) h1 h2 h3) fun σ H Q ⟨m, G, h, ρ, R, s, q⟩ => ?_
  simp only [ev] at q
  exact tE_first hcl R s q fun x v h1 m1 G1 H1 _ _ _ R1 s1 r1 q1 => tO_first hcl R1 s1 q1 fun i h2 m2 G2 H2 x2 g2 l2 R2 s2 q2 => tO_first hcl R2 s2 q2 fun j h3 m3 G3 H3 x3 g3 l3 R3 s3 q3 =>
    ⟨m3, G3, h3, x, σ, R3, (r1.mono x2 l2 g2).mono x3 l3 g3, q3⟩
theorem I_args0 : PA X [] (tA X.K CT cl W []) := PAimp pa_nil fun σ H Q ⟨m, G, h, ρ, R, s, q⟩ => by
  simp only [evs] at q
  exact Post.now q R .nil
theorem I_args (hcl : GroC cl) (h1 : PE X e1 (tE X.K CT cl W c1)) (h2 : PA X es (tA X.K CT cl W cs)) (hs : starEach (e1 :: es) X.env = (false, eval e1 X.env) :: starEach es X.env) : PA X (e1 :: es) (tA X.K CT cl W (c1 :: cs)) :=
  PAimp (pa_cons h1 h2 hs) fun σ H Q ⟨m, G, h, ρ, R, s, q⟩ => by
    simp only [evs] at q
    exact tE_first hcl R s q fun x v h1 m1 G1 H1 _ _ _ R1 s1 r1 q1 => tA_first hcl R1 s1 q1 fun y u h2 m2 G2 H2 x2 g2 l2 R2 s2 r2 q2 => Post.now q2 R2 (.cons (r1.mono x2 l2 g2) r2)
theorem I_tup {x1} (hcl : GroC cl) (h1 : PA X es (tA X.K CT cl W cs)) : PE X (.Tuple es x1 pos) (tE X.K CT cl W (.tup cs)) :=
  PEimp (pe_tup h1) fun σ H Q ⟨m, G, h, ρ, R, s, q⟩ => by
    simp only [ev] at q
    refine tA_first hcl R s q fun x v h1 m1 G1 H1 _ _ _ R1 s1 r1 q1 => ?_
    split at q1
    · rename_i hl
      exact ⟨by rw [← r1.length, ← szl_eq]; exact hl, fun pp hp => Post.newT q1 R1 r1 hp⟩
    · exact q1.elim
theorem I_lst (hcl : GroC cl) (h1 : PA X es (tA X.K CT cl W cs)) : PE X (.List es pos) (tE X.K CT cl W (.lst cs)) :=
  PEimp (pe_lst h1) fun σ H Q ⟨m, G, h, ρ, R, s, q⟩ => by
    simp only [ev] at q
    refine tA_first hcl R s q fun x v h1 m1 G1 H1 _ _ _ R1 s1 r1 q1 => ?_
    split at q1
    · rename_i hl
      exact ⟨by rw [← r1.length, ← szl_eq]; exact hl, fun pp hp => Post.newL q1 R1 r1 hp⟩
    · exact q1.elim
theorem I_dct0 : PE X (.Dict [] [] pos) (tE X.K CT cl W (.dct [] [])) :=
  PEimp pe_dnewK fun σ H Q ⟨m, G, h, ρ, R, s, q⟩ pp hp => by
    simp only [ev] at q
    have R' := R.new (o := .dic []) hp (keep_upd hp) ⟨[], upd_same, trivial⟩ rfl
    have z : Rel X.K (mx m h.length pp) (h ++ [PO.dic []]).length G (.ref h.length) (.ref (mx m h.length pp h.length)) := .ref (by rw [List.length_append]; simp)
    rw [mx_new] at z
    exact q _ G _ _ mx_ex Sub.refl R' z
theorem I_tst (hcl : GroC cl) (h1 : PE X e (tE X.K CT cl W c)) (he : ∀ whole, isTrue e X.env whole = (do let v ← whole; standAt e.pos; holding [v] (truthy v))) : PT X e (tT X.K CT cl W c) :=
  PTimp (pt_truth h1 he) fun σ H Q ⟨m, G, h, ρ, R, s, q⟩ => by
    unfold tst at q
    refine tE_first hcl R s q fun x v h1 m1 G1 H1 _ _ _ R1 s1 r1 q1 => ?_
    obtain ⟨b, e, q2⟩ := truR_parts q1 R1
    exact ⟨b, tru_ok R1 r1 e, q2⟩
theorem tst_cmp {o : COp} {ρ : Mi.Env} {h : PH} : tst cl (.cmp o c1 c2) ρ h = (ev cl c1 ρ h).bind fun x h1 => (ev cl c2 ρ h1).bind fun y h2 => (cmpV o x y h2).bind fun z h3 => truR z h3 := by
  unfold tst
  simp only [ev]
  cases ev cl c1 ρ h with
  | ok x h1 =>
    simp only [bind_ok]
    cases ev cl c2 ρ h1 <;> rfl
  | _ => rfl
theorem cmpV_bl {o : COp} {x y : PV} {h : PH} : (∃ b, cmpV o x y h = .ok (.bl b) h) ∨ cmpV o x y h = .bad := by
  unfold cmpV bR nbR
  (repeat' split) <;> first | exact .inl ⟨_, rfl⟩ | exact .inr rfl
theorem I_tcmp {o : COp} {op : CmpOp} (ho : op = coOp o) (hu : Hu X CT) (hcl : GroC cl) (h1 : PE X e1 (tE X.K CT cl W c1)) (h2 : PE X e2 (tE X.K CT cl W c2)) (hm : behindInMarks op e2 = false) : PT X (.Compare e1 [op] [e2] pos) (tT X.K CT cl W (.cmp o c1 c2)) := by
  subst ho
  refine PTimp (pt_cmpR (op_C (CT := CT) (W := W) hu o) h1 h2 hm) fun σ H Q ⟨m, G, h, ρ, R, s, q⟩ => ?_
  rw [tst_cmp] at q
  refine tE_first hcl R s q fun x v h1 m1 G1 H1 _ _ _ R1 s1 r1 q1 => tE_first hcl R1 s1 q1 fun y u h2 m2 G2 H2 ex sg le R2 s2 r2 q2 => ⟨m2, G2, h2, x, y, σ, R2, r1.mono ex le sg, r2, ?_⟩
  rcases cmpV_bl (o := o) (x := x) (y := y) (h := h2) with ⟨b, eb⟩ | eb
  · rw [eb] at q2 ⊢
    intro m' G' H' b' x3 g3 R3 r3
    obtain rfl := r3.bl_inv
    exact ⟨b, rfl, q2 m' G' H' b x3 g3 R3 rfl⟩
  · rw [eb] at q2
    exact q2.elim
theorem I_tnot (hcl : GroC cl) (h1 : PT X e (tT X.K CT cl W c)) : PT X (.UnaryOp .Not e pos) (tT X.K CT cl W (.nt c)) :=
  PTimp (pt_not h1) fun σ H Q ⟨m, G, h, ρ, R, s, q⟩ => by
    have z : tst cl (.nt c) ρ h = (tst cl c ρ h).bind fun b h1 => .ok (!b) h1 := by
      unfold tst
      simp only [ev]
      cases ev cl c ρ h with
      | ok x h1 =>
        simp only [bind_ok]
        cases e : truR x h1 with
        | ok b h2 =>
          simp only [bind_ok]
          rfl
        | _ => rfl
      | _ => rfl
    rw [z] at q
    exact tT_first hcl R s q fun b h1 m1 G1 H1 _ _ _ R1 s1 q1 => Post.now q1 R1 rfl
theorem tst_and {ρ : Mi.Env} {h : PH} : tst cl (.and c1 c2) ρ h = (tst cl c1 ρ h).bind fun b h1 => if b then tst cl c2 ρ h1 else .ok false h1 := by
  unfold tst
  simp only [ev]
  cases ev cl c1 ρ h with
  | ok x h1 =>
    simp only [bind_ok]
    cases e : truR x h1 with
    | ok b h2 =>
      have hb : h2 = h1 ∧ tru x h1 = some b := by
        unfold truR at e
        cases z : tru x h1 with
        | none => rw [z] at e; cases e
        | some t => rw [z] at e; injection e with e1 e2; exact ⟨e2.symm, by rw [e1]⟩
      obtain ⟨rfl, hb⟩ := hb
      cases b with
      | true => simp
      | false =>
        simp only [bind_ok]
        unfold truR
        rw [if_neg (by simp), if_neg (by simp)]
        simp [hb]
    | _ => rfl
  | _ => rfl
theorem tst_or {ρ : Mi.Env} {h : PH} : tst cl (.or c1 c2) ρ h = (tst cl c1 ρ h).bind fun b h1 => if b then .ok true h1 else tst cl c2 ρ h1 := by
  unfold tst
  simp only [ev]
  cases ev cl c1 ρ h with
  | ok x h1 =>
    simp only [bind_ok]
    cases e : truR x h1 with
    | ok b h2 =>
      have hb : h2 = h1 ∧ tru x h1 = some b := by
        unfold truR at e
        cases z : tru x h1 with
        | none => rw [z] at e; cases e
        | some t => rw [z] at e; injection e with e1 e2; exact ⟨e2.symm, by rw [e1]⟩
      obtain ⟨rfl, hb⟩ := hb
      cases b with
      | false => simp
      | true => simp [truR, hb]
    | _ => rfl
  | _ => rfl
theorem I_wand {b : Expr} {rest : List Expr} (hcl : GroC cl) (h1 : PT X e (tT X.K CT cl W c1)) (h2 : PW X (.BoolOp .And (b :: rest) pos) (tT X.K CT cl W c2)) : PW X (.BoolOp .And (e :: b :: rest) pos) (tT X.K CT cl W (.and c1 c2)) :=
  ⟨fun whole pins s σ H Q I ⟨m, G, h, ρ, R, sr, q⟩ => (pw_and h1 h2).run whole pins s σ H Q I (by
    rw [tst_and] at q
    refine tT_first hcl R sr q fun b h1 m1 G1 H1 _ _ _ R1 s1 q1 => ?_
    cases b with
    | true => rw [if_pos rfl] at q1 ⊢; exact ⟨m1, G1, h1, ρ, R1, s1, q1⟩
    | false => rw [if_neg (by simp)] at q1 ⊢; exact Post.now q1 R1 rfl)⟩
theorem I_wor {b : Expr} {rest : List Expr} (hcl : GroC cl) (h1 : PT X e (tT X.K CT cl W c1)) (h2 : PW X (.BoolOp .Or (b :: rest) pos) (tT X.K CT cl W c2)) : PW X (.BoolOp .Or (e :: b :: rest) pos) (tT X.K CT cl W (.or c1 c2)) :=
  ⟨fun whole pins s σ H Q I ⟨m, G, h, ρ, R, sr, q⟩ => (pw_or h1 h2).run whole pins s σ H Q I (by
    rw [tst_or] at q
    refine tT_first hcl R sr q fun b h1 m1 G1 H1 _ _ _ R1 s1 q1 => ?_
    cases b with
    | true => rw [if_pos rfl] at q1 ⊢; exact Post.now q1 R1 rfl
    | false => rw [if_neg (by simp)] at q1 ⊢; exact ⟨m1, G1, h1, ρ, R1, s1, q1⟩)⟩
theorem I_and {b : Expr} {rest : List Expr} (hcl : GroC cl) (h1 : PE X e (tE X.K CT cl W c1)) (h2 : PE X (.BoolOp .And (b :: rest) pos) (tE X.K CT cl W c2)) : PE X (.BoolOp .And (e :: b :: rest) pos) (tE X.K CT cl W (.and c1 c2)) :=
  PEimp (pe_andT h1 h2) fun σ H Q ⟨m, G, h, ρ, R, s, q⟩ => by
    simp only [ev] at q
    refine tE_first hcl R s q fun x v h1 m1 G1 H1 _ _ _ R1 s1 r1 q1 => ?_
    have q1' := Post.bind (rel1 := relB) truR_gro q1
    obtain ⟨b, e, z⟩ := truR_parts q1' R1
    refine ⟨b, tru_ok R1 r1 e, ?_⟩
    have eb : truR x h1 = .ok b h1 := by unfold truR; rw [e]
    rw [eb] at q1
    simp only [bind_ok] at q1
    cases b with
    | true => rw [if_pos rfl] at q1 ⊢; exact ⟨m1, G1, h1, ρ, R1, s1, q1⟩
    | false => rw [if_neg (by simp)] at q1 ⊢; exact Post.now q1 R1 r1
theorem I_or {b : Expr} {rest : List Expr} (hcl : GroC cl) (h1 : PE X e (tE X.K CT cl W c1)) (h2 : PE X (.BoolOp .Or (b :: rest) pos) (tE X.K CT cl W c2)) : PE X (.BoolOp .Or (e :: b :: rest) pos) (tE X.K CT cl W (.or c1 c2)) :=
  PEimp (pe_orT h1 h2) fun σ H Q ⟨m, G, h, ρ, R, s, q⟩ => by
    simp only [ev] at q
    refine tE_first hcl R s q fun x v h1 m1 G1 H1 _ _ _ R1 s1 r1 q1 => ?_
    have q1' := Post.bind (rel1 := relB) truR_gro q1
    obtain ⟨b, e, z⟩ := truR_parts q1' R1
    refine ⟨b, tru_ok R1 r1 e, ?_⟩
    have eb : truR x h1 = .ok b h1 := by unfold truR; rw [e]
    rw [eb] at q1
    simp only [bind_ok] at q1
    cases b with
    | true => rw [if_pos rfl] at q1 ⊢; exact Post.now q1 R1 r1
    | false => rw [if_neg (by simp)] at q1 ⊢; exact ⟨m1, G1, h1, ρ, R1, s1, q1⟩
theorem I_nt (hcl : GroC cl) (h1 : PE X e (tE X.K CT cl W c)) : PE X (.UnaryOp .Not e pos) (tE X.K CT cl W (.nt c)) :=
  PEimp (pe_notT h1) fun σ H Q ⟨m, G, h, ρ, R, s, q⟩ => by
    simp only [ev] at q
    refine tE_first hcl R s q fun x v h1 m1 G1 H1 _ _ _ R1 s1 r1 q1 => ?_
    have q1' := Post.bind (rel1 := relB) truR_gro q1
    obtain ⟨b, e, z⟩ := truR_parts q1' R1
    refine ⟨b, tru_ok R1 r1 e, ?_⟩
    have eb : truR x h1 = .ok b h1 := by unfold truR; rw [e]
    rw [eb] at q1
    exact Post.now q1 R1 (.bl _)
theorem I_ite (hcl : GroC cl) (h1 : PT X e1 (tT X.K CT cl W c1)) (h2 : PE X e2 (tE X.K CT cl W c2)) (h3 : PE X e3 (tE X.K CT cl W c3)) : PE X (.IfExp e1 e2 e3 pos) (tE X.K CT cl W (.ite c1 c2 c3)) :=
  PEimp (pe_ifExp h1 h2 h3) fun σ H Q ⟨m, G, h, ρ, R, s, q⟩ => by
    have z : ev cl (.ite c1 c2 c3) ρ h = (tst cl c1 ρ h).bind fun t h2 => if t then ev cl c2 ρ h2 else ev cl c3 ρ h2 := by
      unfold tst
      simp only [ev]
      cases ev cl c1 ρ h <;> rfl
    rw [z] at q
    refine tT_first hcl R s q fun b h1 m1 G1 H1 _ _ _ R1 s1 q1 => ?_
    cases b with
    | true => rw [if_pos rfl] at q1 ⊢; exact ⟨m1, G1, h1, ρ, R1, s1, q1⟩
    | false => rw [if_neg (by simp)] at q1 ⊢; exact ⟨m1, G1, h1, ρ, R1, s1, q1⟩
end
end Mi
set_option Elab.async false
set_option linter.all false
set_option maxRecDepth 100000
namespace Mi
open PySem PySem.Spec PyProof.Rows L2
section
variable {X : Cx} {CT : Cts} {cl : Cl} {W : WX} {k : Nat} {a : Addr} {e e1 e2 e3 : Expr} {es : List Expr} {c c1 c2 c3 : E} {cs : List E} {pos apos p : Pos}
theorem I_wand1 (h1 : PT X e (tT X.K CT cl W c)) : PW X (.BoolOp .And [e] pos) (tT X.K CT cl W c) := pw_and1 h1
theorem I_wor1 (h1 : PT X e (tT X.K CT cl W c)) : PW X (.BoolOp .Or [e] pos) (tT X.K CT cl W c) := pw_or1 h1
theorem I_one {op : BoolOp} (h1 : PE X e (tE X.K CT cl W c)) : PE X (.BoolOp op [e] pos) (tE X.K CT cl W c) := pe_one h1
theorem I_tw (h1 : PW X e (tT X.K CT cl W c)) : PT X e (tT X.K CT cl W c) := h1.pt
def rBl (K : PySem.W.Frag) (CT : Cts) (W : WX) (f : String) : List V → Hp → VK → Prop := fun xs H Q => ∃ m G h pvs σ, HR K CT m G H h ∧ RelL K m h.length G pvs xs ∧ Post K CT (Rel K) W σ m G h.length Q (bltV f pvs h)
theorem I_bltB {f id : String} {x : Str} (hcl : GroC cl) (hc : CallR X (.builtin id) (rBl X.K CT W f)) (hg : Gl X x) (hm : X.mg x = none) (hv : bootBuiltins x = some (.builtin id)) (ha : PA X (e :: es) (tA X.K CT cl W cs)) (hn : x ≠ "__name__") (hdb : (x == ("__debug__" : Str)) = false)
    (he : starEach (e :: es) X.env = (false, eval e X.env) :: starEach es X.env) (hpl : (backTo pos (starEach es X.env)).any (·.1) = false) : PE X (.Call (.Name x p) (e :: es) [] pos) (tE X.K CT cl W (.blt f cs)) :=
  PEimp (pe_callB hc hg hm hv ha hn hdb he hpl) fun σ H Q ⟨m, G, h, ρ, R, s, q⟩ => by
    simp only [ev] at q
    exact tA_first hcl R s q fun x v h1 m1 G1 H1 _ _ _ R1 s1 r1 q1 => ⟨m1, G1, h1, x, σ, R1, r1, q1⟩
theorem I_bltT {f id : String} {x : Str} (hcl : GroC cl) (hc : CallR X (.type id) (rBl X.K CT W f)) (hg : Gl X x) (hm : X.mg x = none) (hv : bootBuiltins x = some (.type id)) (ha : PA X (e :: es) (tA X.K CT cl W cs)) (hn : x ≠ "__name__") (hdb : (x == ("__debug__" : Str)) = false)
    (he : starEach (e :: es) X.env = (false, eval e X.env) :: starEach es X.env) (hpl : (backTo pos (starEach es X.env)).any (·.1) = false) : PE X (.Call (.Name x p) (e :: es) [] pos) (tE X.K CT cl W (.blt f cs)) :=
  PEimp (pe_callTy hc hg hm hv ha hn hdb he hpl) fun σ H Q ⟨m, G, h, ρ, R, s, q⟩ => by
    simp only [ev] at q
    exact tA_first hcl R s q fun x v h1 m1 G1 H1 _ _ _ R1 s1 r1 q1 => ⟨m1, G1, h1, x, σ, R1, r1, q1⟩
theorem CallR.imp {f : Value} {r r' : List V → Hp → VK → Prop} (h : CallR X f r) (i : ∀ xs H Q, r' xs H Q → r xs H Q) : CallR X f r' := fun pins s σ H xs us Q I rs q => h pins s σ H xs us Q I rs (i xs H Q q)
theorem RelL.one_inv {K : PySem.W.Frag} {m : Nat → Addr} {N : Nat} {G : Hp} {x : PV} {vs : List V} (r : RelL K m N G [x] vs) : ∃ v, vs = [v] ∧ Rel K m N G x v := by
  cases r with
  | cons a b => cases b; exact ⟨_, rfl, a⟩
theorem RelL.two_inv {K : PySem.W.Frag} {m : Nat → Addr} {N : Nat} {G : Hp} {x y : PV} {vs : List V} (r : RelL K m N G [x, y] vs) : ∃ v w, vs = [v, w] ∧ Rel K m N G x v ∧ Rel K m N G y w := by
  cases r with
  | cons a b => obtain ⟨w, rfl, b'⟩ := b.one_inv; exact ⟨_, _, rfl, a, b'⟩
/-- the items of a list or tuple, where they lie -/
theorem seq_at {K : PySem.W.Frag} {m : Nat → Addr} {G H : Hp} {h : PH} {v : PV} {u : V} {xs : List PV} (R : HR K CT m G H h) (r : Rel K m h.length G v u) (e : seqOf v h = some xs) : ∃ b vs, u = .ref b ∧ (SqL K H b vs ∨ SqT K H b vs ∧ SqT K G b vs ∧ v = .tup xs) ∧ RelL K m h.length G xs vs := by
  unfold seqOf at e
  split at e
  · injection e with e
    subst e
    obtain ⟨a, vs, rfl, ht, rl⟩ := r.tup_inv
    exact ⟨a, vs, rfl, .inr ⟨R.sub.sqT ht, ht, rfl⟩, rl⟩
  · rename_i n
    obtain ⟨rfl, hn⟩ := r.ref_inv
    split at e
    · rename_i ys ek
      injection e with e
      subst e
      obtain ⟨vs, hH, rl⟩ := R.lst ek
      exact ⟨_, vs, rfl, .inl (.of hH), rl⟩
    · rename_i ys ek
      injection e with e
      subst e
      obtain ⟨vs, hH, rl⟩ := R.frz ek
      exact ⟨_, vs, rfl, .inl hH, rl⟩
    · cases e
  · cases e
theorem seq_or {K : PySem.W.Frag} {G H : Hp} {b : Addr} {vs : List V} {p : Prop} (h : SqL K H b vs ∨ SqT K H b vs ∧ SqT K G b vs ∧ p) : SqL K H b vs ∨ SqT K H b vs := h.imp id (·.1)
theorem call_len_b : CallR X (.builtin "len") (rBl X.K CT W "len") := by
  refine CallR.imp (CallR.or call_len_str (CallR.or call_len_seq (CallR.or call_lenD call_lenT))) fun xs H Q ⟨m, G, h, pvs, σ, R, rl, q⟩ => ?_
  simp only [bltV] at q
  split at q
  · rename_i v
    obtain ⟨u, rfl, ru⟩ := rl.one_inv
    obtain ⟨y, ey, q2⟩ := oneR_parts q R
    cases en : lenOf v h with
    | none => rw [en] at ey; cases ey
    | some n =>
      rw [en] at ey
      injection ey with ey
      subst ey
      have q3 := q2 _ (.int (n : Int))
      unfold lenOf at en
      split at en
      · rename_i s
        obtain rfl := ru.str_inv
        split at en
        · rename_i hs
          injection en with en
          subst en
          exact .inl ⟨S2 s, rfl, by rw [S2_len, ← szl_eq]; exact hs, by rw [S2_len]; exact q3⟩
        · cases en
      · obtain ⟨b, vs, rfl, hb, rs⟩ := seq_at (xs := _) R ru rfl
        injection en with en
        subst en
        rw [rs.length] at q3
        exact .inr (.inl ⟨b, vs, rfl, seq_or hb, q3⟩)
      · rename_i n'
        split at en
        · rename_i ys ek
          injection en with en
          subst en
          obtain ⟨b, vs, rfl, hb, rs⟩ := seq_at (xs := ys) R ru (by unfold seqOf; simp only [ek])
          rw [rs.length] at q3
          exact .inr (.inl ⟨b, vs, rfl, seq_or hb, q3⟩)
        · rename_i ys ek
          injection en with en
          subst en
          obtain ⟨b, vs, rfl, hb, rs⟩ := seq_at (xs := ys) R ru (by unfold seqOf; simp only [ek])
          rw [rs.length] at q3
          exact .inr (.inl ⟨b, vs, rfl, seq_or hb, q3⟩)
        · rename_i kvs ek
          injection en with en
          subst en
          obtain ⟨rfl, hn⟩ := ru.ref_inv
          obtain ⟨ks, hH, rd⟩ := R.dic ek
          refine .inr (.inr (.inl ⟨_, ks, rfl, hH, ?_⟩))
          have hl : kvs.length = ks.length := by
            clear q3 q2 q hH ek
            induction kvs generalizing ks with
            | nil => cases ks with
              | nil => rfl
              | cons _ _ => exact rd.elim
            | cons p r ih => cases ks with
              | nil => exact rd.elim
              | cons p' r' => rw [List.length_cons, List.length_cons, ih (ks := r') rd.2.2]
          rw [← hl]
          exact q3
        · rename_i kvs ek
          injection en with en
          subst en
          obtain ⟨rfl, hn⟩ := ru.ref_inv
          obtain ⟨ks, hH, rd⟩ := R.dit ek
          refine .inr (.inr (.inr ⟨_, _, ks, rfl, hH, ?_⟩))
          rw [← relT_len rd]
          exact q3
        · cases en
      · cases en
  · exact q.elim
theorem call_int_b : CallR X (.type "int") (rBl X.K CT W "int") := by
  refine CallR.imp call_int1 fun xs H Q ⟨m, G, h, pvs, σ, R, rl, q⟩ => ?_
  simp only [bltV] at q
  split at q
  · obtain ⟨u, rfl, ru⟩ := rl.one_inv
    obtain rfl := ru.int_inv
    exact .inl ⟨_, rfl, Post.now q R (.int _)⟩
  · obtain ⟨u, rfl, ru⟩ := rl.one_inv
    obtain rfl := ru.bl_inv
    exact .inr ⟨_, rfl, Post.now q R (.int _)⟩
  · exact q.elim
theorem call_max_b (hc : X.calm = true) : CallR X (.builtin "max") (rBl X.K CT W "max") := by
  refine CallR.imp (call_max2 hc) fun xs H Q ⟨m, G, h, pvs, σ, R, rl, q⟩ => ?_
  simp only [bltV] at q
  split at q
  · obtain ⟨u, w, rfl, ru, rw'⟩ := rl.two_inv
    obtain rfl := ru.int_inv
    obtain rfl := rw'.int_inv
    exact ⟨_, _, rfl, Post.now q R (.int _)⟩
  · exact q.elim
/-- the items of a list that are ints -/
theorem ints_rel {K : PySem.W.Frag} {m : Nat → Addr} {N : Nat} {G : Hp} : ∀ {xs : List PV} {vs : List V} {ns : List Int}, RelL K m N G xs vs → intsOf xs = some ns → vs = ns.map V.int ∧ xs = ns.map PV.int
  | [], _, ns, r, e => by
    cases r
    injection e with e
    subst e
    exact ⟨rfl, rfl⟩
  | x :: xs, _, ns, r, e => by
    cases r with
    | cons a r =>
      cases x with
      | int i =>
        unfold intsOf at e
        cases e1 : intsOf xs with
        | none => rw [e1] at e; cases e
        | some ms =>
          rw [e1] at e
          injection e with e
          subst e
          obtain ⟨h1, h2⟩ := ints_rel r e1
          rw [a.int_inv, h1, h2]
          exact ⟨rfl, rfl⟩
      | _ => cases e
theorem rel_ints {K : PySem.W.Frag} {m : Nat → Addr} {N : Nat} {G : Hp} : ∀ (ns : List Int), RelL K m N G (ns.map PV.int) (ns.map V.int)
  | [] => .nil
  | n :: ns => .cons (.int n) (rel_ints ns)
theorem lst_at {K : PySem.W.Frag} {m : Nat → Addr} {G H : Hp} {h : PH} {v : PV} {u : V} {xs : List PV} (R : HR K CT m G H h) (r : Rel K m h.length G v u) (e : lstOf v h = some xs) : ∃ b vs, u = .ref b ∧ SqL K H b vs ∧ RelL K m h.length G xs vs := by
  unfold lstOf at e
  split at e
  · rename_i n
    obtain ⟨rfl, hn⟩ := r.ref_inv
    split at e
    · rename_i ys ek
      injection e with e
      subst e
      obtain ⟨vs, hH, rl⟩ := R.lst ek
      exact ⟨_, vs, rfl, .of hH, rl⟩
    · rename_i ys ek
      injection e with e
      subst e
      obtain ⟨vs, hH, rl⟩ := R.frz ek
      exact ⟨_, vs, rfl, hH, rl⟩
    · cases e
  · cases e
theorem ints_at {K : PySem.W.Frag} {m : Nat → Addr} {G H : Hp} {h : PH} {v : PV} {u : V} {ns : List Int} (R : HR K CT m G H h) (r : Rel K m h.length G v u) (e : (lstOf v h).bind intsOf = some ns) : ∃ b, u = .ref b ∧ SqL K H b (ns.map V.int) := by
  cases es : lstOf v h with
  | none => rw [es] at e; cases e
  | some ys =>
    rw [es] at e
    obtain ⟨b, vs, rfl, hb, rs⟩ := lst_at R r es
    obtain ⟨rfl, _⟩ := ints_rel rs e
    exact ⟨b, rfl, hb⟩
theorem bls_rel {K : PySem.W.Frag} {m : Nat → Addr} {N : Nat} {G : Hp} : ∀ {xs : List PV} {vs : List V} {ns : List Bool}, RelL K m N G xs vs → blsOf xs = some ns → vs = ns.map V.bl
  | [], _, ns, r, e => by
    cases r
    injection e with e
    subst e
    rfl
  | x :: xs, _, ns, r, e => by
    cases r with
    | cons a r =>
      cases x with
      | bl i =>
        unfold blsOf at e
        cases e1 : blsOf xs with
        | none => rw [e1] at e; cases e
        | some ms =>
          rw [e1] at e
          injection e with e
          subst e
          rw [a.bl_inv, bls_rel r e1]
          rfl
      | _ => cases e
theorem bls_at {K : PySem.W.Frag} {m : Nat → Addr} {G H : Hp} {h : PH} {v : PV} {u : V} {ns : List Bool} (R : HR K CT m G H h) (r : Rel K m h.length G v u) (e : (lstOf v h).bind blsOf = some ns) : ∃ b, u = .ref b ∧ SqL K H b (ns.map V.bl) := by
  cases es : lstOf v h with
  | none => rw [es] at e; cases e
  | some ys =>
    rw [es] at e
    obtain ⟨b, vs, rfl, hb, rs⟩ := lst_at R r es
    rw [bls_rel rs e] at hb
    exact ⟨b, rfl, hb⟩
theorem call_all_b (hc : X.calm = true) : CallR X (.builtin "all") (rBl X.K CT W "all") := by
  refine CallR.imp (cr_all hc) fun xs H Q ⟨m, G, h, pvs, σ, R, rl, q⟩ => ?_
  simp only [bltV] at q
  split at q
  · rename_i v
    obtain ⟨u, rfl, ru⟩ := rl.one_inv
    split at q
    · rename_i ns en
      obtain ⟨b, rfl, hb⟩ := bls_at R ru en
      exact ⟨b, ns, rfl, hb, Post.now q R (.bl _)⟩
    · exact q.elim
  · exact q.elim
/-- the one ascending order -/
theorem insI_perm (x : Int) : ∀ l : List Int, (insI x l).Perm (x :: l)
  | [] => .refl _
  | y :: r => by
    unfold insI
    split
    · exact .refl _
    · exact ((insI_perm x r).cons y).trans (.swap x y r)
theorem sortI_perm : ∀ l : List Int, (sortI l).Perm l
  | [] => .refl _
  | x :: r => (insI_perm x (sortI r)).trans ((sortI_perm r).cons x)
theorem insI_asc (x : Int) : ∀ l : List Int, l.Pairwise (· ≤ ·) → (insI x l).Pairwise (· ≤ ·)
  | [], _ => by simp [insI]
  | y :: r, h => by
    obtain ⟨h1, h2⟩ := List.pairwise_cons.mp h
    unfold insI
    split
    · rename_i hx
      refine List.pairwise_cons.mpr ⟨fun z hz => ?_, h⟩
      rcases List.mem_cons.mp hz with rfl | hz
      · exact hx
      · exact Int.le_trans hx (h1 z hz)
    · rename_i hx
      refine List.pairwise_cons.mpr ⟨fun z hz => ?_, insI_asc x r h2⟩
      rcases List.mem_cons.mp ((insI_perm x r).mem_iff.mp hz) with rfl | hz
      · omega
      · exact h1 z hz
theorem sortI_asc : ∀ l : List Int, (sortI l).Pairwise (· ≤ ·)
  | [] => by simp [sortI]
  | x :: r => insI_asc x (sortI r) (sortI_asc r)
theorem asc_one : ∀ {a b : List Int}, a.Perm b → a.Pairwise (· ≤ ·) → b.Pairwise (· ≤ ·) → a = b
  | [], b, p, _, _ => p.nil_eq
  | x :: r, b, p, ha, hb => by
    cases b with
    | nil => exact absurd p.length_eq (by simp)
    | cons y t =>
      obtain ⟨a1, a2⟩ := List.pairwise_cons.mp ha
      obtain ⟨b1, b2⟩ := List.pairwise_cons.mp hb
      have e : x = y := by
        have h1 : x ∈ y :: t := p.mem_iff.mp List.mem_cons_self
        have h2 : y ∈ x :: r := p.mem_iff.mpr List.mem_cons_self
        rcases List.mem_cons.mp h1 with e | h1
        · exact e
        · rcases List.mem_cons.mp h2 with e | h2
          · exact e.symm
          · exact Int.le_antisymm (a1 y h2) (b1 x h1)
      subst e
      rw [asc_one (p.cons_inv) a2 b2]
theorem signs_rel {K : PySem.W.Frag} {m : Nat → Addr} {N : Nat} {G : Hp} : ∀ (s : List Char), RelL K m N G (s.map fun c => PV.str [c]) (s.map fun c => V.str (S2 [c]))
  | [] => .nil
  | c :: r => .cons (.str [c]) (signs_rel r)
/-- list(x), x a text -/
theorem call_list_t (hc : X.calm = true) : CallR X (.type "list") (fun xs H Q => ∃ s : List Char, xs = [V.str (S2 s)] ∧ s.length ≤ sizeLine ∧ ∀ l, H l = none → Q (.ref l) (upd H l (.lst (s.map fun c => V.str (S2 [c]))))) := by
  intro pins z σ H xs us Q I r h
  obtain ⟨s, rfl, few, q⟩ := h
  obtain ⟨v, rfl, rv⟩ := vals1 r
  obtain ⟨t, rfl⟩ := rv
  have sz : (S2 s).cps.size = s.length := by simp
  refine PySem.call_list_str (hn := by rw [sz]; exact few) (I.ok.hd hc) (S2 s) t fun g tk acc c kp hS hi => ?_
  have fr : H z.heap.objs.size = none := I.hok.fresh (Nat.le_refl _)
  obtain ⟨h1, h2⟩ := hi
  have hv : Vals (s.map fun c => V.str (S2 [c])) acc.toList := by
    have key : ∀ (s : List Char) (l : List Value), l.length = s.length → (∀ (j : Nat) (v : Value), l[j]? = some v → ∃ (c : Nat) (u : Tok), (s[j]?).map Char.toNat = some c ∧ v = Value.str ⟨#[c]⟩ u) → Vals (s.map fun c => V.str (S2 [c])) l := by
      intro s
      induction s with
      | nil =>
        intro l hl _
        cases l with
        | nil => exact .nil
        | cons a b => cases hl
      | cons c r ih =>
        intro l hl hv
        cases l with
        | nil => cases hl
        | cons a b =>
          obtain ⟨c1, u, e, ea⟩ := hv 0 a rfl
          obtain rfl : c.toNat = c1 := by simpa using e
          refine .cons ⟨u, ea⟩ (ih b (by simpa using hl) fun j v e => ?_)
          simpa using hv (j + 1) v (by simpa using e)
    refine key s acc.toList (by rw [Array.length_toList, h1, sz]) fun j v e => ?_
    obtain ⟨c, u, e1, e2⟩ := h2 j v (by rw [← Array.getElem?_toList]; exact e)
    exact ⟨c, u, by simpa using e1, e2⟩
  exact ⟨.ref z.heap.objs.size, upd H z.heap.objs.size (.lst (s.map fun c => V.str (S2 [c]))), I.laid (t' := tk) kp (Nat.le_refl _) ⟨by rw [List.length_map]; exact few, acc.toList, c, hv, hS⟩, rfl, q _ fr⟩
theorem keys_rel {K : PySem.W.Frag} {m : Nat → Addr} {N : Nat} {G : Hp} : ∀ {kvs : List (PV × PV)} {ks : List (Key × V)}, RelD K m N G kvs ks → RelL K m N G (kvs.map fun p => p.1) (ks.map fun kv => kV kv.1)
  | [], [], _ => .nil
  | (k, x) :: r, (g, v) :: t, ⟨h1, _, h3⟩ => by
    refine .cons ?_ (keys_rel h3)
    cases k with
    | int i =>
      cases g with
      | inl j => obtain rfl : i = j := h1; exact .int i
      | inr z => exact h1.elim
    | str s =>
      cases g with
      | inl j => exact h1.elim
      | inr z => obtain rfl : z = S2 s := h1; exact .str s
    | _ => exact h1.elim
theorem call_list_b (hc : X.calm = true) : CallR X (.type "list") (rBl X.K CT W "list") := by
  refine CallR.imp (CallR.or call_list_of (call_list_t hc)) fun xs H Q ⟨m, G, h, pvs, σ, R, rl, q⟩ => ?_
  simp only [bltV] at q
  split at q
  · rename_i v
    obtain ⟨u, rfl, ru⟩ := rl.one_inv
    split at q
    · rename_i ys es
      unfold lisOf at es
      split at es
      · rename_i s
        split at es
        · rename_i few
          injection es with es
          subst es
          obtain rfl := ru.str_inv
          exact .inr ⟨s, rfl, by rw [← szl_eq]; exact few, fun l hl => Post.newL q R (signs_rel s) hl⟩
        · cases es
      · obtain ⟨b, vs, rfl, hb, rs⟩ := seq_at R ru es
        exact .inl ⟨b, vs, rfl, seq_or hb, fun l hl => Post.newL q R rs hl⟩
    · exact q.elim
  · exact q.elim
end
end Mi
set_option Elab.async false
set_option linter.all false
set_option maxRecDepth 100000
namespace Mi
open PySem PySem.Spec PyProof.Rows L2
/-- the names of the types below the class u -/
structure TyT (K : PySem.W.Frag) (CT : Cts) (u : Value) (ts : List String) : Prop where
  bt : ∀ n, n ∈ ["NoneType", "bool", "int", "str", "tuple", "list", "dict"] → PySem.W.kitOne K (.type n) u = some (decide (n ∈ ts))
  ow : ∀ c C, CT.ins c C → PySem.W.kitOne K (.ref C) u = some (decide (c ∈ ts))
  ex : ∀ c C, CT.exc c C → PySem.W.kitOne K (.ref C) u = some (decide (c ∈ ts))
/-- a class whose instances may be asked -/
structure InsT (K : PySem.W.Frag) (C : Addr) : Prop where
  cl : Cls K C
  ha : PySem.W.findIn K (.ref C) "__class__" = some (some (.builtin "object.__class__"))
  hn : PySem.W.specialIn K (.builtin "object.__class__") "__get__" = some (some (.builtin "getset_descriptor.__get__"))
  htk : PySem.W.takesIn K (.builtin "object.__class__") = some true
  hm : PySem.W.mroIn K C (.type "object") = some true
section
variable {X : Cx} {CT : Cts} {cl : Cl} {W : WX} {k : Nat} {a : Addr} {e e1 e2 e3 : Expr} {es : List Expr} {c c1 c2 c3 : E} {cs : List E} {pos apos p : Pos}
theorem ty_tup {K : PySem.W.Frag} {H : Hp} {b : Addr} {vs : List V} (h : SqT K H b vs) : TyX K H (.ref b) (.type "tuple") := by
  rcases h with (h | ⟨o, h⟩) | ⟨o, its, n, h, hc, _⟩
  · exact .base (.tup h)
  · exact .fTuple h
  · exact .kTuple h hc
theorem ty_lst {K : PySem.W.Frag} {H : Hp} {b : Addr} {vs : List V} (h : SqL K H b vs) : TyX K H (.ref b) (.type "list") := by
  rcases h with (h | ⟨o, h⟩) | ⟨o, its, n, h, hc, _⟩
  · exact .base (.lst h)
  · exact .base (.frz h)
  · exact .kList h hc
theorem ty_at {K : PySem.W.Frag} {m : Nat → Addr} {G H : Hp} {h : PH} {x : PV} {v : V} {t : String} (hI : ∀ c C, CT.ins c C → InsT K C) (hE : ∀ c C, CT.exc c C → ExcC K C) (R : HR K CT m G H h) (r : Rel K m h.length G x v) (e : tyN x h = some t) : ∃ tv, TyE K H v tv ∧ ∀ u ts, TyT K CT u ts → PySem.W.kitOne K tv u = some (decide (t ∈ ts)) := by
  unfold tyN at e
  split at e
  · injection e with e
    subst e
    obtain rfl := r.non_inv
    exact ⟨_, .ty <| .base .non, fun u ts T => T.bt _ (by simp)⟩
  · injection e with e
    subst e
    obtain rfl := r.bl_inv
    exact ⟨_, .ty <| .base (.bl _), fun u ts T => T.bt _ (by simp)⟩
  · injection e with e
    subst e
    obtain rfl := r.int_inv
    exact ⟨_, .ty <| .base (.int _), fun u ts T => T.bt _ (by simp)⟩
  · injection e with e
    subst e
    obtain rfl := r.str_inv
    exact ⟨_, .ty <| .base (.str _), fun u ts T => T.bt _ (by simp)⟩
  · injection e with e
    subst e
    obtain ⟨b, vs, rfl, ht, _⟩ := r.tup_inv
    exact ⟨_, .ty <| ty_tup (R.sub.sqT ht), fun u ts T => T.bt _ (by simp)⟩
  · rename_i n
    obtain ⟨rfl, hn⟩ := r.ref_inv
    split at e
    · rename_i ys ek
      injection e with e
      subst e
      obtain ⟨vs, hH, _⟩ := R.lst ek
      exact ⟨_, .ty <| ty_lst (.of hH), fun u ts T => T.bt _ (by simp)⟩
    · rename_i ys ek
      injection e with e
      subst e
      obtain ⟨vs, hH, _⟩ := R.frz ek
      exact ⟨_, .ty <| ty_lst hH, fun u ts T => T.bt _ (by simp)⟩
    · rename_i ys ek
      injection e with e
      subst e
      obtain ⟨vs, hH, _⟩ := R.dic ek
      exact ⟨_, .ty <| .base (.dK hH), fun u ts T => T.bt _ (by simp)⟩
    · cases e
    · cases e
    · cases e
    · rename_i c fs ek
      injection e with e
      subst e
      obtain ⟨C, dx, gs, ct, hH, _⟩ := R.ins ek
      have I := hI c C ct
      exact ⟨_, .ty <| .base (.ins hH I.cl I.ha I.hn I.htk I.hm), fun u ts T => T.ow _ _ ct⟩
    · rename_i c fs ek
      injection e with e
      subst e
      obtain ⟨C, d, ct, hG, hf⟩ := R.obj n _ ek
      refine ⟨_, .ex (R.sub _ _ hG) ?_ (hE c C ct), fun u ts T => T.ex _ _ ct⟩
      rcases hf with ⟨_, rfl⟩ | ⟨dd, gs, rfl, h2, _⟩
      · trivial
      · exact ⟨gs, R.sub _ _ h2⟩
    · cases e
    · cases e
/-- isinstance(e, T) -/
theorem I_isi {ts : List String} {u : V} {w : Value} (hcl : GroC cl) (hI : ∀ c C, CT.ins c C → InsT X.K C) (hE : ∀ c C, CT.exc c C → ExcC X.K C) (hg : Gl X "isinstance") (hm : X.mg "isinstance" = none) (hv : bootBuiltins "isinstance" = some (.builtin "isinstance")) (h1 : PE X e (tE X.K CT cl W c)) (h2 : PE X e2 (tC u)) (hu : ClsV u w) (T : TyT X.K CT w ts)
    (hs1 : starEach [e, e2] X.env = (false, eval e X.env) :: starEach [e2] X.env) (hs2 : starEach [e2] X.env = (false, eval e2 X.env) :: starEach [] X.env) (hpl : (backTo pos (starEach [e2] X.env)).any (·.1) = false) :
    PE X (.Call (.Name "isinstance" p) [e, e2] [] pos) (tE X.K CT cl W (.isi c ts)) :=
  PEimp (pe_callB call_isC hg hm hv (pa_cons h1 (pa_cons h2 pa_nil hs2) hs1) (by decide) (by decide) hs1 hpl) fun σ H Q ⟨m, G, h, ρ, R, s, q⟩ => by
    simp only [ev] at q
    refine tE_first hcl R s q fun x v h1 m1 G1 H1 _ _ _ R1 s1 r1 q1 => ?_
    obtain ⟨b, e, q2⟩ := bR_parts q1 R1
    cases et : tyN x h1 with
    | none => rw [et] at e; cases e
    | some t =>
      rw [et] at e
      injection e with e
      have e : decide (t ∈ ts) = b := e
      obtain ⟨tv, hty, hk⟩ := ty_at hI hE R1 r1 et
      exact ⟨v, u, tv, w, b, rfl, hu, hty, by rw [hk w ts T, e], q2⟩
/-- several classes in one tuple -/
inductive TyTs (K : PySem.W.Frag) (CT : Cts) : List Value → List String → Prop
  | nil : TyTs K CT [] []
  | cons {u : Value} {us : List Value} {ts tr : List String} (a : TyT K CT u ts) (r : TyTs K CT us tr) : TyTs K CT (u :: us) (ts ++ tr)
theorem TyTs.any {K : PySem.W.Frag} {us : List Value} {ts : List String} (T : TyTs K CT us ts) {tv : Value} {t : String} (hk : ∀ u ts, TyT K CT u ts → PySem.W.kitOne K tv u = some (decide (t ∈ ts))) : PySem.W.kitAny K tv us = some (decide (t ∈ ts)) := by
  induction T with
  | nil => rfl
  | @cons u us ts tr a r ih =>
    refine kitAny_cons (hk u ts a) (fun hb => ?_) (fun hb => ?_)
    · rw [ih]
      have := of_decide_eq_false hb
      simp [this]
    · have := of_decide_eq_true hb
      simp [this]
end
end Mi
set_option Elab.async false
set_option linter.all false
set_option maxRecDepth 100000
namespace Mi
open PySem PySem.Spec PyProof.Rows L2
/-- where a statement ends -/
def EndF (K : PySem.W.Frag) (CT : Cts) (W : WX) (D : Ends) (m : Nat → Addr) (G H : Hp) (N : Nat) : Fl → Prop
  | .nx ρ => ∀ σ, SR K m N G ρ σ → D.nx σ H
  | .rt v => ∀ u, Rel K m N G v u → D.rt u H
  | .bk ρ => ∀ σ, SR K m N G ρ σ → D.bk σ H
  | .ct ρ => ∀ σ, SR K m N G ρ σ → D.ct σ H
  | .xc x ρ => ∀ σ cls d, SR K m N G ρ σ → XR K CT m N G x cls d → W cls d σ H
def PostF (K : PySem.W.Frag) (CT : Cts) (W : WX) (D : Ends) (m : Nat → Addr) (G : Hp) (N : Nat) : R Fl → Prop
  | .ok f h' => ∀ m' G' H', Ex m m' N → Sub G G' → HR K CT m' G' H' h' → EndF K CT W D m' G' H' h'.length f
  | _ => False
section
variable {K : PySem.W.Frag} {CT : Cts} {cl : Cl} {W W' : WX} {D D' : Ends} {m m1 : Nat → Addr} {N N' : Nat} {G G1 H : Hp} {h : PH} {ρ : Mi.Env} {σ : L2.St}
theorem PostF.later {r : R Fl} (p : PostF K CT W D m G N r) (e : Ex m m1 N) (l : N ≤ N') (t : Sub G G1) : PostF K CT W D m1 G1 N' r := by
  cases r with
  | ok a h' => exact fun m' G' H' e1 e2 e3 => p m' G' H' (e.trans e1 l) (t.trans e2) e3
  | exc x h' => exact p
  | bad => exact p
theorem PostF.lift {α β : Type} {rel : (Nat → Addr) → Nat → Hp → α → β → Prop} {r : R α} {f : α → PH → R Fl} (hg : Gro h r) (s : SR K m h.length G ρ σ) (p : PostF K CT W D m G h.length (r.lift ρ f)) :
    Post K CT rel W σ m G h.length (fun b H1 => ∃ a h1 m1 G1, Ex m m1 h.length ∧ Sub G G1 ∧ HR K CT m1 G1 H1 h1 ∧ rel m1 h1.length G1 a b ∧ h.length ≤ h1.length ∧ PostF K CT W D m1 G1 h1.length (f a h1)) r := by
  cases r with
  | ok a h' => exact fun m' G' H' b e1 e2 e3 e4 => ⟨a, h', m', G', e1, e2, e3, e4, hg, PostF.later (r := f a h') p e1 hg e2⟩
  | exc x h' => exact fun m' G' H' cls d e1 e2 e3 e4 => p m' G' H' e1 e2 e3 σ cls d (s.mono e1 hg e2) e4
  | bad => exact p
theorem PostF.seq {r : R Fl} {f : Fl → PH → R Fl} (hg : Gro h r) (p : PostF K CT W D m G h.length (r.bind f))
    (k : ∀ x h1 m1 G1 H1, Ex m m1 h.length → Sub G G1 → HR K CT m1 G1 H1 h1 → h.length ≤ h1.length → PostF K CT W D m1 G1 h1.length (f x h1) → EndF K CT W' D' m1 G1 H1 h1.length x) : PostF K CT W' D' m G h.length r := by
  cases r with
  | ok a h' => exact fun m' G' H' e1 e2 e3 => k a h' m' G' H' e1 e2 e3 hg (PostF.later (r := f a h') p e1 hg e2)
  | exc x h' => exact p
  | bad => exact p
theorem PostF.now {x : Fl} (p : PostF K CT W D m G h.length (.ok x h)) (R : HR K CT m G H h) : EndF K CT W D m G H h.length x := p m G H Ex.refl Sub.refl R
end
section
variable (K : PySem.W.Frag) (CT : Cts) (cl : Cl) (W : WX)
def tS (c : S) : TS := fun D σ H => ∃ m G h ρ, HR K CT m G H h ∧ SR K m h.length G ρ σ ∧ PostF K CT W D m G h.length (ex cl c ρ h)
def tSs (c : List S) : TS := fun D σ H => ∃ m G h ρ, HR K CT m G H h ∧ SR K m h.length G ρ σ ∧ PostF K CT W D m G h.length (exs cl c ρ h)
end
section
variable {K : PySem.W.Frag} {CT : Cts} {cl : Cl} {W : WX} {D : Ends} {m : Nat → Addr} {N : Nat} {G H : Hp} {h : PH} {ρ : Mi.Env} {σ : L2.St}
theorem sE_first {c : E} {Q1 : VK} {f : PV → PH → R Fl} (hc : GroC cl) (R : HR K CT m G H h) (s : SR K m h.length G ρ σ) (p : PostF K CT W D m G h.length ((ev cl c ρ h).lift ρ f))
    (k : ∀ x v h1 m1 G1 H1, Ex m m1 h.length → Sub G G1 → h.length ≤ h1.length → HR K CT m1 G1 H1 h1 → SR K m1 h1.length G1 ρ σ → Rel K m1 h1.length G1 x v → PostF K CT W D m1 G1 h1.length (f x h1) → Q1 v H1) : tE K CT cl W c σ H Q1 :=
  ⟨m, G, h, ρ, R, s, (PostF.lift (ev_gro hc c ρ h) s p).mono fun v H1 ⟨x, h1, m1, G1, e1, e2, e3, e4, e5, e6⟩ => k x v h1 m1 G1 H1 e1 e2 e5 e3 (s.mono e1 e5 e2) e4 e6⟩
theorem sA_first {c : List E} {Q1 : List V → Hp → Prop} {f : List PV → PH → R Fl} (hc : GroC cl) (R : HR K CT m G H h) (s : SR K m h.length G ρ σ) (p : PostF K CT W D m G h.length ((evs cl c ρ h).lift ρ f))
    (k : ∀ x v h1 m1 G1 H1, Ex m m1 h.length → Sub G G1 → h.length ≤ h1.length → HR K CT m1 G1 H1 h1 → SR K m1 h1.length G1 ρ σ → RelL K m1 h1.length G1 x v → PostF K CT W D m1 G1 h1.length (f x h1) → Q1 v H1) : tA K CT cl W c σ H Q1 :=
  ⟨m, G, h, ρ, R, s, (PostF.lift (evs_gro hc c ρ h) s p).mono fun v H1 ⟨x, h1, m1, G1, e1, e2, e3, e4, e5, e6⟩ => k x v h1 m1 G1 H1 e1 e2 e5 e3 (s.mono e1 e5 e2) e4 e6⟩
theorem sT_first {c : E} {Q1 : Bool → Hp → Prop} {f : Bool → PH → R Fl} (hc : GroC cl) (R : HR K CT m G H h) (s : SR K m h.length G ρ σ) (p : PostF K CT W D m G h.length ((tst cl c ρ h).lift ρ f))
    (k : ∀ b h1 m1 G1 H1, Ex m m1 h.length → Sub G G1 → h.length ≤ h1.length → HR K CT m1 G1 H1 h1 → SR K m1 h1.length G1 ρ σ → PostF K CT W D m1 G1 h1.length (f b h1) → Q1 b H1) : tT K CT cl W c σ H Q1 :=
  ⟨m, G, h, ρ, R, s, (PostF.lift (rel := relB) (tst_gro hc c ρ h) s p).mono fun v H1 ⟨x, h1, m1, G1, e1, e2, e3, e4, e5, e6⟩ => by
    have e : x = v := e4
    subst e
    exact k x h1 m1 G1 H1 e1 e2 e5 e3 (s.mono e1 e5 e2) e6⟩
end
theorem PSsimp {X : Cx} {e : List Stmt} {t t' : TS} (p : PSs X e t) (i : ∀ D σ H, t' D σ H → t D σ H) : PSs X e t' := ⟨fun pins s σ H D I h => p.run pins s σ H D I (i D σ H h)⟩
section
variable {X : Cx} {CT : Cts} {cl : Cl} {W : WX} {e e1 e2 e3 : Expr} {es : List Expr} {c c1 c2 c3 : E} {cs : List E} {s1 : S} {ss ts : List S} {st : Stmt} {sts stt : List Stmt} {pos apos p : Pos}
theorem S_nil : PSs X [] (tSs X.K CT cl W []) := PSsimp pss_nil fun D σ H ⟨m, G, h, ρ, R, s, q⟩ => by
  simp only [exs] at q
  exact q.now R σ s
theorem S_cons (hcl : GroC cl) (h1 : PS X st (tS X.K CT cl W s1)) (h2 : PSs X sts (tSs X.K CT cl W ss)) : PSs X (st :: sts) (tSs X.K CT cl W (s1 :: ss)) :=
  PSsimp (pss_cons h1 h2) fun D σ H ⟨m, G, h, ρ, R, s, q⟩ => by
    simp only [exs] at q
    refine ⟨m, G, h, ρ, R, s, q.seq (ex_gro hcl s1 ρ h) fun x h1 m1 G1 H1 e1 e2 R1 le q1 => ?_⟩
    cases x with
    | nx ρ1 => exact fun σ' s' => ⟨m1, G1, h1, ρ1, R1, s', q1⟩
    | rt v => exact q1.now R1
    | bk ρ1 => exact q1.now R1
    | ct ρ1 => exact q1.now R1
    | xc x ρ1 => exact q1.now R1
theorem S_ex (hcl : GroC cl) (h1 : PE X e (tE X.K CT cl W c)) (hs : swapsWith e none pos.line X.env = pure false) : PS X (.Expr e pos) (tS X.K CT cl W (.ex c)) :=
  PSimp (ps_expr h1 hs) fun D σ H ⟨m, G, h, ρ, R, s, q⟩ => by
    simp only [ex] at q
    exact sE_first hcl R s q fun x v h1 m1 G1 H1 _ _ _ R1 s1 r1 q1 => q1.now R1 σ s1
theorem S_ret (hcl : GroC cl) (h1 : PE X e (tE X.K CT cl W c)) : PS X (.Return (some e) pos) (tS X.K CT cl W (.ret c)) :=
  PSimp (ps_ret h1) fun D σ H ⟨m, G, h, ρ, R, s, q⟩ => by
    simp only [ex] at q
    exact sE_first hcl R s q fun x v h1 m1 G1 H1 _ _ _ R1 s1 r1 q1 => q1.now R1 v r1
theorem S_if (hcl : GroC cl) (h1 : PT X e (tT X.K CT cl W c)) (h2 : PSs X sts (tSs X.K CT cl W ss)) (h3 : PSs X stt (tSs X.K CT cl W ts)) : PS X (.If e sts stt pos) (tS X.K CT cl W (.ite c ss ts)) :=
  PSimp (ps_if h1 h2 h3) fun D σ H ⟨m, G, h, ρ, R, s, q⟩ => by
    simp only [ex] at q
    refine sT_first hcl R s q fun b h1 m1 G1 H1 _ _ _ R1 s1 q1 => ?_
    cases b with
    | true => rw [if_pos rfl] at q1 ⊢; exact ⟨m1, G1, h1, ρ, R1, s1, q1⟩
    | false => rw [if_neg (by simp)] at q1 ⊢; exact ⟨m1, G1, h1, ρ, R1, s1, q1⟩
theorem S_set {i : Nat} {x : Str} {pos' : Pos} (hcl : GroC cl) (hN : X.N.Nodup) (hi : X.N[i]? = some x) (hx : Loc X.env.scope x) (h1 : PE X e (tE X.K CT cl W c)) (hs : swapsWith e (some (.Name x pos')) pos.line X.env = pure false) (hf : X.fn x = true ∨ X.env.scope.names.lookup x = some .local) :
    PS X (.Assign [.Name x pos'] e pos) (tS X.K CT cl W (.asg (.nm i) c)) :=
  PSimp (ps_set hN hi hx h1 hs hf) fun D σ H ⟨m, G, h, ρ, R, s, q⟩ => by
    simp only [ex, bindT] at q
    exact sE_first hcl R s q fun x v h1 m1 G1 H1 _ _ _ R1 s1 r1 q1 => q1.now R1 _ (s1.set r1 i)
theorem S_par {i j : Nat} {x y : Str} {px py pt : Pos} {kt k2 pt2} (hcl : GroC cl) (hc : X.calm = true) (hN : X.N.Nodup) (hi : X.N[i]? = some x) (hj : X.N[j]? = some y) (hij : i ≠ j) (hx : X.env.scope.names.lookup x = some .local) (hy : X.env.scope.names.lookup y = some .local) (ha : PA X [e1, e2] (tA X.K CT cl W [c1, c2]))
    (hw : swappedStores [.Tuple [.Name x px, .Name y py] kt pt] (.Tuple [e1, e2] k2 pt2) X.env = pure (some [x, y])) (hs : swapsWithSole [.Tuple [.Name x px, .Name y py] kt pt] (.Tuple [e1, e2] k2 pt2) pos.line X.env = pure false) :
    PS X (.Assign [.Tuple [.Name x px, .Name y py] kt pt] (.Tuple [e1, e2] k2 pt2) pos) (tS X.K CT cl W (.par [i, j] [c1, c2])) :=
  PSimp (ps_par hc hN hi hj hij hx hy ha hw hs) fun D σ H ⟨m, G, h, ρ, R, s, q⟩ => by
    simp only [ex] at q
    refine sA_first hcl R s q fun xs vs h1 m1 G1 H1 _ _ _ R1 s1 r1 q1 => ?_
    match xs, r1, q1 with
    | [], _, q1 => exact q1.elim
    | [_], _, q1 => exact q1.elim
    | [_, _], r1, q1 =>
      obtain ⟨v, w, rfl, rv, rw'⟩ := r1.two_inv
      exact ⟨v, w, rfl, q1.now R1 _ ((s1.set rv i).set rw' j)⟩
    | _ :: _ :: _ :: _, _, q1 => exact q1.elim
theorem S_aug {i : Nat} {x : Str} {pos' : Pos} {neg : Bool} {op : Operator} (ho : op = if neg then .Sub else .Add) (hcl : GroC cl) (hN : X.N.Nodup) (hi : X.N[i]? = some x) (hx : Loc X.env.scope x) (h1 : PE X e (tE X.K CT cl W c)) (hf : X.fn x = true ∨ X.env.scope.names.lookup x = some .local) :
    PS X (.AugAssign (.Name x pos') op e pos) (tS X.K CT cl W (.aug i neg c)) := by
  have go : ∀ (op : Operator) (ti : TIp), PIp X op ti → (∀ x y H Q, (∃ i j, x = V.int i ∧ y = V.int j ∧ Q (V.int (if neg then i - j else i + j)) H) → ti x y H Q) → PS X (.AugAssign (.Name x pos') op e pos) (tS X.K CT cl W (.aug i neg c)) := fun op ti hp hk =>
    PSimp (ps_aug hN hi hx h1 hp hf) fun D σ H ⟨m, G, h, ρ, R, s, q⟩ => by
      simp only [ex] at q
      split at q
      · rename_i px ep
        obtain ⟨v, ev, rv⟩ := s.2 i px ep
        refine ⟨v, ev, sE_first hcl R s q fun y u h1 m1 G1 H1 e1 e2 le R1 s1 r1 q1 => hk _ _ _ _ ?_⟩
        have rv1 := rv.mono e1 le e2
        unfold augV at q1
        split at q1
        · obtain rfl := rv1.int_inv
          obtain rfl := r1.int_inv
          exact ⟨_, _, rfl, rfl, q1.now R1 _ (s1.set (.int _) i)⟩
        · exact q1.elim
      · exact q.elim
  subst ho
  cases neg with
  | true => exact go _ _ ip_sub fun x y H Q ⟨i, j, a, b, q⟩ => ⟨i, j, a, b, q⟩
  | false => exact go _ _ ip_add fun x y H Q ⟨i, j, a, b, q⟩ => ⟨i, j, a, b, q⟩
theorem S_while (hcl : GroC cl) (hp : PassesOwn (model X.prog X.w) X.A X.env X.xe) (h1 : PT X e (tT X.K CT cl W c)) (h2 : PSs X sts (tSs X.K CT cl W ss)) : PS X (.While e sts [] pos) (tS X.K CT cl W (.while_ c ss)) :=
  PSimp (ps_while hp h1 h2) fun D σ H ⟨m, G, h, ρ, R, s, q⟩ => by
    simp only [ex] at q
    refine ⟨fun n σ H => ∃ m G h ρ, HR X.K CT m G H h ∧ SR X.K m h.length G ρ σ ∧ PostF X.K CT W D m G h.length (whL (fun ρ1 h1 => tst cl c ρ1 h1) (fun ρ1 h1 => exs cl ss ρ1 h1) n ρ h), ⟨_, m, G, h, ρ, R, s, q⟩, ?_⟩
    rintro n σ H ⟨m, G, h, ρ, R, s, q⟩
    cases n with
    | zero => exact q.elim
    | succ n =>
      unfold whL at q
      refine sT_first hcl R s q fun b h1 m1 G1 H1 _ _ _ R1 s1 q1 => ?_
      cases b with
      | true =>
        rw [if_pos rfl] at q1 ⊢
        refine ⟨fun σ' H' => ∃ m G h ρ, HR X.K CT m G H' h ∧ SR X.K m h.length G ρ σ' ∧ PostF X.K CT W D m G h.length (whL (fun ρ1 h1 => tst cl c ρ1 h1) (fun ρ1 h1 => exs cl ss ρ1 h1) n ρ h), fun σ' H' z => ⟨n, Nat.lt_succ_self n, z⟩, m1, G1, h1, ρ, R1, s1, q1.seq (exs_gro hcl ss ρ h1) fun x h2 m2 G2 H2 e1 e2 R2 le q2 => ?_⟩
        cases x with
        | nx ρ1 => exact fun σ' s' => ⟨m2, G2, h2, ρ1, R2, s', q2⟩
        | ct ρ1 => exact fun σ' s' => ⟨m2, G2, h2, ρ1, R2, s', q2⟩
        | bk ρ1 => exact q2.now R2
        | rt v => exact q2.now R2
        | xc x ρ1 => exact q2.now R2
      | false =>
        rw [if_neg (by simp)] at q1 ⊢
        exact q1.now R1 σ s1
end
end Mi
set_option Elab.async false
set_option linter.all false
set_option maxRecDepth 100000
namespace Mi
open PySem PySem.Spec PyProof.Rows L2
theorem wipe_in {σ : L2.St} {j : Nat} : ∀ {vs : List Nat}, j ∈ vs → j < σ.length → (wipe σ vs)[j]? = some none
  | [], h, _ => by cases h
  | v :: vs, h, hl => by
    unfold wipe
    by_cases hv : v = j
    · subst hv
      rw [List.getElem?_set_self (by rw [wipe_length]; exact hl)]
    · rw [List.getElem?_set_ne hv]
      rcases List.mem_cons.mp h with h | h
      · exact absurd h.symm hv
      · exact wipe_in h hl
theorem wipe_set {σ : L2.St} {i : Nat} {vs : List Nat} (x : Option V) (h : i ∈ vs) : wipe (σ.set i x) vs = wipe σ vs := by
  apply List.ext_getElem?
  intro j
  by_cases hl : j < σ.length
  · by_cases hj : j ∈ vs
    · rw [wipe_in hj (by rw [List.length_set]; exact hl), wipe_in hj hl]
    · rw [wipe_out hj, wipe_out hj, List.getElem?_set_ne (show i ≠ j from fun z => hj (by rw [← z]; exact h))]
  · rw [List.getElem?_eq_none (by rw [wipe_length, List.length_set]; omega), List.getElem?_eq_none (by rw [wipe_length]; omega)]
section
variable (K : PySem.W.Frag) (CT : Cts) (vs : List Nat)
def tG (t : T) : TG := fun v σ H Q => ∃ m G h ρ ρ' px, HR K CT m G H h ∧ SR K m h.length G ρ σ ∧ Rel K m h.length G px v ∧ bindT h t px ρ = some ρ' ∧ ∀ σ', SR K m h.length G ρ' σ' → wipe σ' vs = wipe σ vs → Q σ' H
def tGs (t : List T) : TGs := fun us σ H Q => ∃ m G h ρ ρ' px, HR K CT m G H h ∧ SR K m h.length G ρ σ ∧ RelL K m h.length G px us ∧ bindTs h t px ρ = some ρ' ∧ ∀ σ', SR K m h.length G ρ' σ' → wipe σ' vs = wipe σ vs → Q σ' H
end
section
variable {X : Cx} {CT : Cts} {cl : Cl} {W : WX} {vv : List Nat} {e e1 e2 e3 : Expr} {es : List Expr} {c c1 c2 c3 : E} {cs : List E} {s1 : S} {ss ts : List S} {st : Stmt} {sts stt : List Stmt} {pos apos p : Pos}
theorem G_nm {i : Nat} {x : Str} (hN : X.N.Nodup) (hi : X.N[i]? = some x) (hx : Loc X.env.scope x) (hf : X.fn x = true ∨ X.env.scope.names.lookup x = some .local) (hv : i ∈ vv) : PG X (.Name x pos) (tG X.K CT vv (.nm i)) :=
  ⟨fun pins s σ H v u Q I r ⟨m, G, h, ρ, ρ', px, R, sr, rv, eb, q⟩ => (pg_name hN hi hx hf).run pins s σ H v u Q I r (by
    simp only [bindT] at eb
    injection eb with eb
    subst eb
    exact q _ (sr.set rv i) (wipe_set _ hv))⟩
theorem Gs_nil : PGs X [] (tGs X.K CT vv []) :=
  ⟨fun pins s σ H vs us Q I r ⟨m, G, h, ρ, ρ', px, R, sr, rv, eb, q⟩ => pgs_nil.run pins s σ H vs us Q I r (by
    cases px with
    | nil =>
      cases rv
      simp only [bindTs] at eb
      injection eb with eb
      subst eb
      exact ⟨rfl, q _ sr rfl⟩
    | cons _ _ => simp only [bindTs] at eb; cases eb)⟩
theorem Gs_cons {t : T} {tt : List T} (h1 : PG X e (tG X.K CT vv t)) (h2 : PGs X es (tGs X.K CT vv tt)) (hs : (assignEach (e :: es) X.env).map (·.2) = assign e X.env :: (assignEach es X.env).map (·.2)) : PGs X (e :: es) (tGs X.K CT vv (t :: tt)) :=
  ⟨fun pins s σ H vs us Q I r ⟨m, G, h, ρ, ρ', px, R, sr, rv, eb, q⟩ => (pgs_cons h1 h2 hs).run pins s σ H vs us Q I r (by
    cases rv with
    | nil => simp only [bindTs] at eb; cases eb
    | @cons x v xs vs a rr =>
      simp only [bindTs] at eb
      cases e1 : bindT h t x ρ with
      | none => rw [e1] at eb; cases eb
      | some ρ1 =>
        rw [e1] at eb
        exact ⟨v, vs, rfl, m, G, h, ρ, ρ1, x, R, sr, a, e1, fun σ1 s1 w1 => ⟨m, G, h, ρ1, ρ', xs, R, s1, rr, eb, fun σ2 s2 w2 => q σ2 s2 (w2.trans w1)⟩⟩)⟩
theorem bindTs_len {h : PH} : ∀ {ts : List T} {xs : List PV} {ρ ρ' : Mi.Env}, bindTs h ts xs ρ = some ρ' → xs.length = ts.length
  | [], [], _, _, _ => rfl
  | [], _ :: _, _, _, e => by simp only [bindTs] at e; cases e
  | _ :: _, [], _, _, e => by simp only [bindTs] at e; cases e
  | t :: ts, x :: xs, ρ, ρ', e => by
    simp only [bindTs] at e
    split at e
    · rw [List.length_cons, List.length_cons, bindTs_len e]
    · cases e
theorem G_tup {tt : List T} {k n : Nat} (hc : X.calm = true) (h1 : PGs X es (tGs X.K CT vv tt)) (hn : (assignEach es X.env).length = n) (ht : tt.length = n) (hst : (assignEach es X.env).findIdx? (·.1) = none) : PG X (.Tuple es k pos) (tG X.K CT vv (.tup tt)) :=
  ⟨fun pins s σ H v u Q I r ⟨m, G, h, ρ, ρ', px, R, sr, rv, eb, q⟩ => by
    unfold bindT at eb
    split at eb
    · rename_i xs
      obtain ⟨a, vs, rfl, hT, rl⟩ := rv.tup_inv
      refine (pg_tup hc h1 hn hst).run pins s σ H _ u Q I r ⟨a, vs, rfl, R.sub.sqT hT, ?_, m, G, h, ρ, ρ', xs, R, sr, rl, eb, q⟩
      rw [← rl.length, bindTs_len eb, ht]
    · rename_i n'
      obtain ⟨rfl, hlt⟩ := rv.ref_inv
      split at eb
      · rename_i xs ek
        obtain ⟨vs, hH, rl⟩ := R.lst ek
        refine (pg_lst hc h1 hn hst).run pins s σ H _ u Q I r ⟨_, vs, rfl, .of hH, ?_, m, G, h, ρ, ρ', xs, R, sr, rl, eb, q⟩
        rw [← rl.length, bindTs_len eb, ht]
      · cases eb
    · cases eb⟩
theorem S_asg {t : T} (hcl : GroC cl) (h1 : PE X e (tE X.K CT cl W c)) (h2 : PG X e1 (tG X.K CT vv t)) (hs : swapsWithSole [e1] e pos.line X.env = pure false) (hw : swappedStores [e1] e X.env = pure none) (ha : (assignEach [e1] X.env).map (·.2) = [assign e1 X.env]) :
    PS X (.Assign [e1] e pos) (tS X.K CT cl W (.asg t c)) :=
  PSimp (ps_asg h1 h2 hs hw ha) fun D σ H ⟨m, G, h, ρ, R, s, q⟩ => by
    simp only [ex] at q
    refine sE_first hcl R s q fun x v h1 m1 G1 H1 _ _ _ R1 s1 r1 q1 => ?_
    split at q1
    · rename_i ρ1 eb
      exact ⟨m1, G1, h1, ρ, ρ1, x, R1, s1, r1, eb, fun σ' s' _ => q1.now R1 σ' s'⟩
    · exact q1.elim
/-- the store written at a list, at an instance -/
theorem Post.put {D : Ends} {m : Nat → Addr} {G H : Hp} {h : PH} {n : Nat} {o o' : PO} {u : HO} {f : Fl} {K : PySem.W.Frag} (q : PostF K CT W D m G h.length (.ok f (h.set n o'))) (R : HR K CT m G H h) (e : h[n]? = some o) (k : nk o = true) (k' : nk o' = true)
    (w : ∀ H', H' (m n) = some u → OR K CT m h.length G H' (m n) o') : EndF K CT W D m G (upd H (m n) u) h.length f := by
  have z := q m G _ Ex.refl Sub.refl (R.put e k k' w)
  rw [List.length_set] at z
  exact z
theorem relK_of {K : PySem.W.Frag} {m : Nat → Addr} {N : Nat} {G : Hp} {k : PV} {v : V} (r : Rel K m N G k v) (h : keyOk k = true) : ∃ g, v = kV g ∧ RelK k g := by
  cases k with
  | int i => exact ⟨.inl i, r.int_inv, rfl⟩
  | str s => exact ⟨.inr (S2 s), r.str_inv, rfl⟩
  | _ => cases h
theorem relK_eq {a b : PV} {g k : Key} (h1 : RelK a g) (h2 : RelK b k) : (a = b ↔ g = k) := by
  cases a with
  | int i =>
    cases g with
    | inl j =>
      cases b with
      | int i' => cases k with
        | inl j' =>
          have e1 : i = j := h1
          have e2 : i' = j' := h2
          subst e1 e2
          constructor
          · intro z; injection z with z; rw [z]
          · intro z; injection z with z; rw [z]
        | inr _ => exact h2.elim
      | str s' => cases k with
        | inl _ => exact h2.elim
        | inr _ => constructor <;> intro z <;> cases z
      | _ => cases k <;> exact h2.elim
    | inr _ => exact h1.elim
  | str s =>
    cases g with
    | inl _ => exact h1.elim
    | inr j =>
      cases b with
      | int i' => cases k with
        | inl j' => constructor <;> intro z <;> cases z
        | inr _ => exact h2.elim
      | str s' => cases k with
        | inl _ => exact h2.elim
        | inr j' =>
          have e1 : j = S2 s := h1
          have e2 : j' = S2 s' := h2
          subst e1 e2
          constructor
          · intro z; injection z with z; rw [z]
          · intro z; injection z with z; rw [S2_inj z]
      | _ => cases k <;> exact h2.elim
  | _ => cases g <;> exact h1.elim
theorem relD_len {K : PySem.W.Frag} {m : Nat → Addr} {N : Nat} {G : Hp} : ∀ {xs : List (PV × PV)} {ks : List (Key × V)}, RelD K m N G xs ks → xs.length = ks.length
  | [], [], _ => rfl
  | [], _ :: _, h => h.elim
  | _ :: _, [], h => h.elim
  | (a, b) :: r, (c, d) :: t, h => by rw [List.length_cons, List.length_cons, relD_len h.2.2]
theorem relD_app {K : PySem.W.Frag} {m : Nat → Addr} {N : Nat} {G : Hp} {k : PV} {g : Key} {x : PV} {v : V} (hk : RelK k g) (hv : Rel K m N G x v) : ∀ {xs : List (PV × PV)} {ks : List (Key × V)}, RelD K m N G xs ks → RelD K m N G (xs ++ [(k, x)]) (ks ++ [(g, v)])
  | [], [], _ => ⟨hk, hv, trivial⟩
  | [], _ :: _, h => h.elim
  | _ :: _, [], h => h.elim
  | (a, b) :: r, (c, d) :: t, h => ⟨h.1, h.2.1, relD_app hk hv h.2.2⟩
theorem relD_upd {K : PySem.W.Frag} {m : Nat → Addr} {N : Nat} {G : Hp} {k : PV} {g : Key} {x : PV} {v : V} (hk : RelK k g) (hv : Rel K m N G x v) : ∀ {xs : List (PV × PV)} {ks : List (Key × V)}, RelD K m N G xs ks →
    RelD K m N G (xs.map fun kv => if kv.1 = k then (kv.1, x) else kv) (ks.map fun kv => if kv.1 = g then (kv.1, v) else kv) ∧ ((xs.any fun kv => decide (kv.1 = k)) = (ks.any fun kv => decide (kv.1 = g)))
  | [], [], _ => ⟨trivial, rfl⟩
  | [], _ :: _, h => h.elim
  | _ :: _, [], h => h.elim
  | (a, b) :: r, (c, d) :: t, h => by
    obtain ⟨i1, i2⟩ := relD_upd hk hv h.2.2
    have e := relK_eq h.1 hk
    refine ⟨?_, ?_⟩
    · show RelD K m N G ((if a = k then (a, x) else (a, b)) :: _) ((if c = g then (c, v) else (c, d)) :: _)
      by_cases hz : a = k
      · rw [if_pos hz, if_pos (e.mp hz)]
        exact ⟨h.1, hv, i1⟩
      · rw [if_neg hz, if_neg fun z => hz (e.mpr z)]
        exact ⟨h.1, h.2.1, i1⟩
    · rw [List.any_cons, List.any_cons, i2]
      congr 1
      exact decide_eq_decide.mpr e
theorem relD_put {K : PySem.W.Frag} {m : Nat → Addr} {N : Nat} {G : Hp} {k : PV} {g : Key} {x : PV} {v : V} (hk : RelK k g) (hv : Rel K m N G x v) {xs : List (PV × PV)} {ks : List (Key × V)} (h : RelD K m N G xs ks) : RelD K m N G (Mi.putK k x xs) (L2.putK ks g v) := by
  obtain ⟨h1, h2⟩ := relD_upd hk hv h
  unfold Mi.putK
  by_cases hz : (xs.any fun kv => decide (kv.1 = k)) = true
  · rw [if_pos hz]
    rw [h2] at hz
    show RelD K m N G _ (if (ks.any fun kv => decide (kv.1 = g)) = true then _ else _)
    rw [if_pos hz]
    exact h1
  · rw [if_neg hz]
    rw [h2] at hz
    show RelD K m N G _ (if (ks.any fun kv => decide (kv.1 = g)) = true then _ else _)
    rw [if_neg hz]
    exact relD_app hk hv h
end
end Mi
set_option Elab.async false
set_option linter.all false
set_option maxRecDepth 100000
namespace Mi
open PySem PySem.Spec PyProof.Rows L2
theorem PSet.or {X : Cx} {t u : TSet} (a : PSet X t) (b : PSet X u) : PSet X (fun o i v H Q => t o i v H Q ∨ u o i v H Q) := fun pins s σ H o i v ov iv w Q I r1 r2 r3 q => q.elim (a pins s σ H o i v ov iv w Q I r1 r2 r3) (b pins s σ H o i v ov iv w Q I r1 r2 r3)
/-- o[i] = v, the key a tuple -/
def rSetT (X : Cx) (CT : Cts) : TSet := fun o i v H Q => ∃ a b k xs, o = .ref a ∧ i = .ref b ∧ TD X CT.nh H a xs ∧ KeyIs X.K H k (.ref b) ∧ k.depth ≤ 8 ∧ xs.length < sizeLine ∧ Q (upd H a (DitO CT.nh a (stT xs k b v)))
theorem set_tupd {X : Cx} {CT : Cts} (hu : Hu X CT) : PSet X (rSetT X CT) := by
  intro pins s σ H o i v ov iv u Q I ro ri rv h
  obtain ⟨a, b, k, xs, eo, ei, td, hk, hd, hz, q⟩ := h
  subst eo ei
  cases (show ov = Value.ref a from ro)
  cases (show iv = Value.ref b from ri)
  exact t_setItem (by have := hu.u; omega) hu.n I td hk hd hz rv fun s' I' => ⟨_, I', q⟩
section
variable {X : Cx} {CT : Cts} {cl : Cl} {W : WX} {e e1 e2 e3 : Expr} {es : List Expr} {c c1 c2 c3 : E} {cs : List E} {s1 : S} {ss ts : List S} {st : Stmt} {sts stt : List Stmt} {pos apos p : Pos}
theorem S_seti (hv : Hu X CT) (hcl : GroC cl) (h1 : PE X e1 (tE X.K CT cl W c1)) (h2 : PE X e2 (tE X.K CT cl W c2)) (h3 : PE X e3 (tE X.K CT cl W c3)) (hs : swapsWithSole [.Subscript e1 e2 p] e3 pos.line X.env = pure false) (hw : swappedStores [.Subscript e1 e2 p] e3 X.env = pure none)
    (ha : (assignEach [.Subscript e1 e2 p] X.env).map (·.2) = [assign (.Subscript e1 e2 p) X.env]) (hg : ∀ v, assign (.Subscript e1 e2 p) X.env v = (do
      let ov ← holding [v] (eval e1 X.env)
      let iv ← holding [v, ov] (eval e2 X.env)
      standAt p
      holding [v, ov, iv] (setItem ov iv v)
      release [v, ov, iv] [])) :
    PS X (.Assign [.Subscript e1 e2 p] e3 pos) (tS X.K CT cl W (.seti c1 c2 c3)) :=
  PSimp (ps_asg h3 (pg_sub h1 h2 (PSet.or set_list (PSet.or (set_dict (by have := hv.u; omega)) (set_tupd (CT := CT) hv))) hg) hs hw ha) fun D σ H ⟨m, G, h, ρ, R, s, q⟩ => by
    simp only [ex] at q
    refine sE_first hcl R s q fun x v h1 m1 G1 H1 _ _ _ R1 s1 r1 q1 => sE_first hcl R1 s1 q1 fun y u h2 m2 G2 H2 x2 g2 l2 R2 s2 r2 q2 => sE_first hcl R2 s2 q2 fun z w h3 m3 G3 H3 x3 g3 l3 R3 s3 r3 q3 => ?_
    have rx := (r1.mono x2 l2 g2).mono x3 l3 g3
    have ry := r2.mono x3 l3 g3
    unfold setiV at q3
    split at q3
    · rename_i n
      obtain ⟨rfl, hn⟩ := ry.ref_inv
      split at q3
      · rename_i xs ek
        split at q3
        · rename_i k
          obtain rfl := r3.int_inv
          split at q3
          · rename_i j ej
            obtain ⟨vs, hH, rl⟩ := R3.lst ek
            refine .inl ⟨_, vs, k, j, rfl, rfl, hH, by rw [← rl.length]; exact ej, ?_⟩
            have z2 := Post.put (u := .lst (vs.set j v)) q3 R3 ek rfl rfl fun H' e' => ⟨_, e', rl.set rx j⟩
            exact z2 σ s3
          · exact q3.elim
        · exact q3.elim
      · rename_i kvs ek
        split at q3
        · rename_i hc
          rw [Bool.and_eq_true, decide_eq_true_eq] at hc
          obtain ⟨g, rfl, hk⟩ := relK_of r3 hc.1
          obtain ⟨ks, hH, rd⟩ := R3.dic ek
          refine .inr (.inl ⟨_, _, rfl, DPut.k hH (by rw [← relD_len rd, ← szl_eq]; exact hc.2), ?_⟩)
          have z2 := Post.put (u := .dK (L2.putK ks g v)) q3 R3 ek rfl rfl fun H' e' => ⟨_, e', relD_put hk rx rd⟩
          exact z2 σ s3
        · split at q3
          · rename_i hz
            rw [Bool.and_eq_true] at hz
            have e0 : kvs = [] := List.isEmpty_iff.mp hz.2
            subst e0
            obtain ⟨xs, td, rl⟩ := td_of R3 (.inr ⟨rfl, ek⟩)
            cases xs with
            | cons _ _ => exact rl.elim
            | nil =>
              obtain ⟨b, rfl⟩ := tkOk_ref hz.1 r3
              refine .inr (.inr ⟨_, b, _, [], rfl, rfl, td, rel_key R3.sub 8 (tkOk_in hz.1) r3, nk_depth 8 z (tkOk_in hz.1), by decide, ?_⟩)
              have z2 := Post.put (u := DitO CT.nh (m3 n) [(nkOf 8 z, b, v)]) (o' := .dit [(z, x)]) q3 R3 ek rfl rfl fun H' e' => ⟨_, e', ⟨rfl, hz.1, r3⟩, rx, trivial⟩
              exact z2 σ s3
          · exact q3.elim
      · rename_i kvs ek
        split at q3
        · rename_i hc
          unfold tkAt at hc
          rw [Bool.and_eq_true, Bool.and_eq_true, decide_eq_true_eq] at hc
          obtain ⟨⟨hk, hf⟩, hl⟩ := hc
          obtain ⟨xs, td, rl⟩ := td_of R3 (.inl ek)
          obtain ⟨b, rfl⟩ := tkOk_ref hk r3
          refine .inr (.inr ⟨_, b, _, xs, rfl, rfl, td, rel_key R3.sub 8 (tkOk_in hk) r3, nk_depth 8 z (tkOk_in hk), by rw [← relT_len rl, ← szl_eq]; exact hl, ?_⟩)
          have z2 := Post.put (u := DitO CT.nh (m3 n) (stT xs (nkOf 8 z) b v)) (o' := .dit (putK z x kvs)) q3 R3 ek rfl rfl fun H' e' => ⟨_, e', relT_put r3 rx hk hf rl⟩
          exact z2 σ s3
        · exact q3.elim
      · exact q3.elim
    · exact q3.elim
theorem relF_put {K : PySem.W.Frag} {m : Nat → Addr} {N : Nat} {G : Hp} {f : String} {x : PV} {v : V} (hv : Rel K m N G x v) : ∀ {fs : List (String × PV)} {gs : List (Str × V)}, RelF K m N G fs gs → RelF K m N G (putFs f x fs) (putF (Str.ofString f) v gs) ∧ fs.length = gs.length
  | [], [], _ => ⟨⟨rfl, hv, trivial⟩, rfl⟩
  | [], _ :: _, h => h.elim
  | _ :: _, [], h => h.elim
  | (a, b) :: r, (c, d) :: t, ⟨h1, h2, h3⟩ => by
    obtain ⟨i1, i2⟩ := relF_put (f := f) hv h3
    subst h1
    refine ⟨?_, by rw [List.length_cons, List.length_cons, i2]⟩
    unfold putFs putF
    by_cases hz : a = f
    · subst hz
      rw [if_pos rfl, if_pos rfl]
      exact ⟨rfl, hv, h3⟩
    · rw [if_neg hz, if_neg fun z => hz (ofString_inj z)]
      exact ⟨rfl, h2, i1⟩
theorem S_setf {f : String} {x : Str} (hx : x = Str.ofString f) (hcl : GroC cl) (cls : ∀ c C, CT.ins c C → Cls X.K C ∧ NoAttr X.K C x) (h1 : PE X e1 (tE X.K CT cl W c1)) (h3 : PE X e3 (tE X.K CT cl W c3)) (hs : swapsWith e3 (some (.Attribute e1 x p)) pos.line X.env = pure false) :
    PS X (.Assign [.Attribute e1 x p] e3 pos) (tS X.K CT cl W (.setf c1 f c3)) := by
  subst hx
  refine PSimp (ps_fld h1 h3 hs) fun D σ H ⟨m, G, h, ρ, R, s, q⟩ => ?_
  simp only [ex] at q
  refine sE_first hcl R s q fun x v h1 m1 G1 H1 _ _ _ R1 s1 r1 q1 => sE_first hcl R1 s1 q1 fun y u h2 m2 G2 H2 x2 g2 l2 R2 s2 r2 q2 => ?_
  have rx := r1.mono x2 l2 g2
  unfold setfV at q2
  split at q2
  · rename_i n
    obtain ⟨rfl, hn⟩ := r2.ref_inv
    split at q2
    · rename_i c0 fs ek
      split at q2
      · rename_i hl
        obtain ⟨C, dx, gs, ct, hH, rf⟩ := R2.ins ek
        obtain ⟨p1, p2⟩ := relF_put (f := f) rx rf
        refine ⟨_, C, dx, gs, rfl, hH, (cls c0 C ct).1, (cls c0 C ct).2, by omega, ?_⟩
        have z2 := Post.put (u := .ins C dx (putF (Str.ofString f) v gs)) q2 R2 ek rfl rfl fun H' e' => ⟨C, dx, _, ct, e', p1⟩
        exact z2 σ s2
      · exact q2.elim
    · exact q2.elim
  · exact q2.elim
end
end Mi
set_option Elab.async false
set_option linter.all false
set_option maxRecDepth 100000
namespace Mi
open PySem PySem.Spec PyProof.Rows L2
/-- the tuples stay -/
def SubT (K : PySem.W.Frag) (G H : Hp) : Prop := (∀ a xs, SqT K G a xs → SqT K H a xs) ∧ ∀ a o u, G a = some (.frz o u) → H a = some (.frz o u)
theorem Sub.t {K : PySem.W.Frag} {G H : Hp} (s : Sub G H) : SubT K G H := ⟨fun _ _ q => s.sqT q, fun a _ _ q => s a _ q⟩
theorem SubT.trans {K : PySem.W.Frag} {G H J : Hp} (a : SubT K G H) (b : SubT K H J) : SubT K G J := ⟨fun x y q => b.1 x y (a.1 x y q), fun x y z q => b.2 x y z (a.2 x y z q)⟩
mutual
theorem Rel.monoT {K : PySem.W.Frag} {m m' : Nat → Addr} {N N' : Nat} {G G' : Hp} (e : Ex m m' N) (l : N ≤ N') (t : SubT K G G') : ∀ {x : PV} {v : V}, Rel K m N G x v → Rel K m' N' G' x v
  | _, _, .non => .non
  | _, _, .bl b => .bl b
  | _, _, .int i => .int i
  | _, _, .str s => .str s
  | _, _, .ref (n := n) hn => by
    have q : Rel K m' N' G' (.ref n) (.ref (m' n)) := .ref (Nat.lt_of_lt_of_le hn l)
    rw [e n hn] at q
    exact q
  | _, _, .tup hs r => .tup (t.1 _ _ hs) (RelL.monoT e l t r)
theorem RelL.monoT {K : PySem.W.Frag} {m m' : Nat → Addr} {N N' : Nat} {G G' : Hp} (e : Ex m m' N) (l : N ≤ N') (t : SubT K G G') : ∀ {x : List PV} {v : List V}, RelL K m N G x v → RelL K m' N' G' x v
  | _, _, .nil => .nil
  | _, _, .cons a r => .cons (Rel.monoT e l t a) (RelL.monoT e l t r)
end
/-- J walks i's items as long as i's things stay -/
structure IsW (K : PySem.W.Frag) (CT : Cts) (J : It) (i : Its) (m0 : Nat → Addr) (N0 : Nat) (G0 : Hp) : Prop where
  go : ∀ j m G H h, Ex m0 m N0 → SubT K G0 G → N0 ≤ h.length → HR K CT m G H h → okG i.g h = true → j < i.xs.length → J.go j H
  st : ∀ m G H h, Ex m0 m N0 → SubT K G0 G → N0 ≤ h.length → HR K CT m G H h → okG i.g h = true → J.stop i.xs.length H
  yl : ∀ j m G H h x H', Ex m0 m N0 → SubT K G0 G → N0 ≤ h.length → HR K CT m G H h → okG i.g h = true → j < i.xs.length → J.yld j H x H' → ∃ px G', i.xs[j]? = some px ∧ Sub G G' ∧ HR K CT m G' H' h ∧ Rel K m h.length G' px x ∧ ∀ b, H b ≠ none → H' b = H b ∧ G' b = G b
abbrev relI (K : PySem.W.Frag) (CT : Cts) (m : Nat → Addr) (N : Nat) (G : Hp) : Its → It → Prop := fun i J => IsW K CT J i m N G
def itsE (cl : Cl) (ik : IK) (cs : List E) (ρ : Mi.Env) (h : PH) : R Its := (evs cl cs ρ h).bind fun vs h1 => match itsOf ik vs h1 with
  | some i => .ok i h1
  | none => .bad
theorem itsE_gro {cl : Cl} (hc : GroC cl) {ik : IK} {cs : List E} {ρ : Mi.Env} {h : PH} : Gro h (itsE cl ik cs ρ h) := (evs_gro hc cs ρ h).bind fun vs h1 _ => by split <;> first | trivial | exact Gro.refl
def tI (K : PySem.W.Frag) (CT : Cts) (cl : Cl) (W : WX) (ik : IK) (cs : List E) : TI := fun σ H R => ∃ m G h ρ, HR K CT m G H h ∧ SR K m h.length G ρ σ ∧ Post K CT (relI K CT) W σ m G h.length R (itsE cl ik cs ρ h)
section
variable {K : PySem.W.Frag} {CT : Cts} {m m0 : Nat → Addr} {N0 : Nat} {G0 G H : Hp} {h : PH} {v : PV} {u : V}
theorem okG1 {n : Nat} {o : PO} (e : okG [(n, o)] h = true) : h[n]? = some o := by simpa [okG] using e
/-- a list of the store, where it stands -/
def LstAt (K : PySem.W.Frag) (CT : Cts) (a : Addr) (i : Its) (m0 : Nat → Addr) (N0 : Nat) (G0 : Hp) : Prop := ∀ m G H h, Ex m0 m N0 → SubT K G0 G → N0 ≤ h.length → HR K CT m G H h → okG i.g h = true → ∃ vs, SqL K H a vs ∧ RelL K m h.length G i.xs vs
theorem lstAt_of {n : Nat} {i : Its} (hn : n < N0) (h1 : i.g = [(n, .lst i.xs)] ∨ i.g = [(n, .frz i.xs)]) : LstAt K CT (m0 n) i m0 N0 G0 := fun m G H h e t l R ok => by
  rcases h1 with h1 | h1
  · rw [h1] at ok
    obtain ⟨vs, hH, rl⟩ := R.lst (okG1 ok)
    rw [e n hn] at hH
    exact ⟨vs, .of hH, rl⟩
  · rw [h1] at ok
    obtain ⟨vs, hH, rl⟩ := R.frz (okG1 ok)
    rw [e n hn] at hH
    exact ⟨vs, hH, rl⟩
theorem w_list {a : Addr} {i : Its} (L : LstAt K CT a i m0 N0 G0) : IsW K CT (Itl K a) i m0 N0 G0 :=
  ⟨fun j m G H h e t l R ok hj => by
    obtain ⟨vs, hq, rl⟩ := L m G H h e t l R ok
    exact walk_list.goes j H (by rw [← rl.length]; exact hj) hq,
  fun m G H h e t l R ok => by
    obtain ⟨vs, hq, rl⟩ := L m G H h e t l R ok
    rw [rl.length]
    exact walk_list.stops H hq,
  fun j m G H h x H' e t l R ok hj y => by
    obtain ⟨vs, hq, rl⟩ := L m G H h e t l R ok
    obtain ⟨e1, e2⟩ := walk_list.yields j H x H' (by rw [← rl.length]; exact hj) hq y
    subst e1
    obtain ⟨w, e3, r⟩ := rl.get (List.getElem?_eq_getElem hj)
    rw [e2] at e3
    injection e3 with e3
    subst e3
    exact ⟨_, G, List.getElem?_eq_getElem hj, Sub.refl, R, r, fun _ _ => ⟨rfl, rfl⟩⟩⟩
theorem w_tup {a : Addr} {xs : List PV} {vs : List V} (hT : SqT K G0 a vs) (r0 : RelL K m0 N0 G0 xs vs) : IsW K CT (Itt K a) ⟨xs, []⟩ m0 N0 G0 :=
  ⟨fun j m G H h e t l R ok hj => walk_tup.goes j H (by rw [← r0.length]; exact hj) (R.sub.sqT (t.1 _ _ hT)),
  fun m G H h e t l R ok => by
    show (Itt K a).stop xs.length H
    rw [r0.length]
    exact walk_tup.stops H (R.sub.sqT (t.1 _ _ hT)),
  fun j m G H h x H' e t l R ok hj y => by
    obtain ⟨e1, e2⟩ := walk_tup.yields j H x H' (by rw [← r0.length]; exact hj) (R.sub.sqT (t.1 _ _ hT)) y
    subst e1
    obtain ⟨w, e3, r⟩ := r0.get (List.getElem?_eq_getElem hj)
    rw [e2] at e3
    injection e3 with e3
    subst e3
    exact ⟨_, G, List.getElem?_eq_getElem hj, Sub.refl, R, r.monoT e l t, fun _ _ => ⟨rfl, rfl⟩⟩⟩
theorem w_str {s : List Char} : IsW K CT (L2.Its (S2 s)) ⟨s.map fun c => .str [c], []⟩ m0 N0 G0 := by
  have hz : (S2 s).cps.size = s.length := by simp [S2]
  refine ⟨fun j m G H h e t l R ok hj => walk_str.goes j H (by rw [hz]; simpa using hj) trivial, fun m G H h e t l R ok => ?_, fun j m G H h x H' e t l R ok hj y => ?_⟩
  · show (L2.Its (S2 s)).stop (s.map fun c => PV.str [c]).length H
    rw [List.length_map, ← hz]
    exact walk_str.stops H trivial
  · have hj' : j < s.length := by simpa using hj
    obtain ⟨e1, c, e2, e3⟩ := walk_str.yields j H x H' (by rw [hz]; exact hj') trivial y
    subst e1
    refine ⟨.str [s[j]], G, by simp [hj'], Sub.refl, R, ?_, fun _ _ => ⟨rfl, rfl⟩⟩
    have e4 : c = s[j].toNat := by
      have : (S2 s).cps[j]? = some (s[j].toNat) := by simp [S2, hj']
      rw [this] at e2
      injection e2 with e2
      exact e2.symm
    rw [e3, e4]
    exact .str [s[j]]
theorem w_range {lo : Int} {n : Nat} : IsW K CT (Itr lo n) ⟨rngL lo n, []⟩ m0 N0 G0 := by
  have hl : (rngL lo n).length = n := by simp [rngL]
  refine ⟨fun j m G H h e t l R ok hj => walk_range.goes j H (by rw [← hl]; exact hj) trivial, fun m G H h e t l R ok => ?_, fun j m G H h x H' e t l R ok hj y => ?_⟩
  · show (Itr lo n).stop (rngL lo n).length H
    rw [hl]
    exact walk_range.stops H trivial
  · have hj' : j < n := by rw [← hl]; exact hj
    obtain ⟨e1, e2⟩ := walk_range.yields j H x H' hj' trivial y
    subst e1
    exact ⟨.int (lo + (j : Nat)), G, by simp [rngL, hj'], Sub.refl, R, by rw [e2]; exact .int _, fun _ _ => ⟨rfl, rfl⟩⟩
theorem enumL_len (lo : Nat) (xs : List PV) : (enumL lo xs).length = xs.length := by
  induction xs generalizing lo with
  | nil => rfl
  | cons x r ih => rw [enumL, List.length_cons, List.length_cons, ih]
theorem enumL_get (lo : Nat) (xs : List PV) (j : Nat) (x : PV) (h : xs[j]? = some x) : (enumL lo xs)[j]? = some (.tup [.int ((lo + j : Nat) : Int), x]) := by
  induction xs generalizing lo j with
  | nil => simp at h
  | cons y r ih =>
    cases j with
    | zero =>
      simp at h
      subst h
      simp [enumL]
    | succ j =>
      rw [enumL, List.getElem?_cons_succ, ih (lo + 1) j (by simpa using h)]
      congr 5
      omega
/-- a new pair -/
theorem pair_rel {N : Nat} {px py : PV} {x y : V} {T : Addr} (R : HR K CT m G H h) (hT : H T = none) (hx : Rel K m h.length G px x) (hy : Rel K m h.length G py y) :
    Sub G (upd G T (.tup [x, y])) ∧ HR K CT m (upd G T (.tup [x, y])) (upd H T (.tup [x, y])) h ∧ Rel K m h.length (upd G T (.tup [x, y])) (.tup [px, py]) (.ref T) := by
  obtain ⟨R', sg⟩ := R.newT (u := .tup [x, y]) hT
  exact ⟨sg, R', .tup (.inl (.inl upd_same)) (.cons (hx.mono Ex.refl (Nat.le_refl _) sg) (.cons (hy.mono Ex.refl (Nat.le_refl _) sg) .nil))⟩
theorem keep_two {T : Addr} {u : HO} (hT : H T = none) : ∀ b, H b ≠ none → upd H T u b = H b ∧ upd G T u b = G b := fun b hb => ⟨keep_upd hT b hb, upd_ne fun z => hb (by rw [z]; exact hT)⟩
theorem w_enum {a : Addr} {i : Its} (L : LstAt K CT a i m0 N0 G0) : IsW K CT (Ite K a) ⟨enumL 0 i.xs, i.g⟩ m0 N0 G0 :=
  ⟨fun j m G H h e t l R ok hj => by
    obtain ⟨vs, hq, rl⟩ := L m G H h e t l R ok
    exact walk_enum.goes j H (by rw [← rl.length, ← enumL_len 0]; exact hj) hq,
  fun m G H h e t l R ok => by
    obtain ⟨vs, hq, rl⟩ := L m G H h e t l R ok
    show (Ite K a).stop (enumL 0 i.xs).length H
    rw [enumL_len, rl.length]
    exact walk_enum.stops H hq,
  fun j m G H h x H' e t l R ok hj y => by
    obtain ⟨vs, hq, rl⟩ := L m G H h e t l R ok
    have hj' : j < i.xs.length := by rw [← enumL_len 0]; exact hj
    obtain ⟨T, x1, x2, e1, hT, e2, e3, e4⟩ := walk_enum.yields j H x H' (by rw [← rl.length]; exact hj') hq y
    injection e3 with e3
    subst e1 e2 e3
    obtain ⟨w, e5, r⟩ := rl.get (List.getElem?_eq_getElem hj')
    have e4 : vs[j]? = some x2 := e4
    rw [e4] at e5
    injection e5 with e5
    subst e5
    obtain ⟨p1, p2, p3⟩ := pair_rel (N := 0) R hT (.int (j : Nat)) r
    refine ⟨_, _, enumL_get 0 i.xs j _ (List.getElem?_eq_getElem hj'), p1, p2, ?_, keep_two hT⟩
    rw [Nat.zero_add]
    exact p3⟩
/-- what a value's items are -/
theorem val_at {i : Its} (R : HR K CT m G H h) (r : Rel K m h.length G v u) (e : ofVal v h = some i) : (∃ a, u = .ref a ∧ (∃ vs, SqL K H a vs) ∧ LstAt K CT a i m h.length G) ∨ (∃ a xs vs, u = .ref a ∧ i = ⟨xs, []⟩ ∧ SqT K G a vs ∧ RelL K m h.length G xs vs) ∨ ∃ s, u = .str (S2 s) ∧ i = ⟨s.map fun c => .str [c], []⟩ := by
  unfold ofVal at e
  split at e
  · injection e with e
    subst e
    obtain ⟨a, vs, rfl, ht, rl⟩ := r.tup_inv
    exact .inr (.inl ⟨a, _, vs, rfl, rfl, ht, rl⟩)
  · split at e
    · injection e with e
      subst e
      exact .inr (.inr ⟨_, r.str_inv, rfl⟩)
    · cases e
  · rename_i n
    obtain ⟨rfl, hn⟩ := r.ref_inv
    split at e
    · rename_i xs ek
      injection e with e
      subst e
      obtain ⟨vs, hH, rl⟩ := R.lst ek
      exact .inl ⟨_, rfl, ⟨vs, .of hH⟩, lstAt_of hn (.inl rfl)⟩
    · rename_i xs ek
      injection e with e
      subst e
      obtain ⟨vs, hH, rl⟩ := R.frz ek
      exact .inl ⟨_, rfl, ⟨vs, hH⟩, lstAt_of hn (.inr rfl)⟩
    · cases e
  · cases e
end
end Mi
set_option Elab.async false
set_option linter.all false
set_option maxRecDepth 100000
namespace Mi
open PySem PySem.Spec PyProof.Rows L2
section
variable {X : Cx} {tg : Expr}
/-- what a value's iterator is, once the value is there -/
theorem it_list {pins : List (Addr × Obj)} {σ : L2.St} {H : Hp} {s : Shared} {R : It → Hp → Prop} {E : Value → Shared → Prop} {a : Addr} {xs : List V} (I : Inv X pins σ H s) (hq : SqL X.K H a xs) (q : R (Itl X.K a) H) : wpAny (model X.prog X.w) X.A (pyIter (.ref a)) (PIE X pins σ tg R) E s := by
  obtain ⟨vals, _, plain, _⟩ := I.list hq
  exact wpAny_pyIter_list plain.isList (pi_one (tk := s.toks) I _ (turn_list a _) ⟨_, Heap.get?_push_size _ rfl, rfl, rfl⟩ q)
theorem it_tup {pins : List (Addr × Obj)} {σ : L2.St} {H : Hp} {s : Shared} {R : It → Hp → Prop} {E : Value → Shared → Prop} {a : Addr} {xs : List V} (I : Inv X pins σ H s) (hq : SqT X.K H a xs) (q : R (Itt X.K a) H) : wpAny (model X.prog X.w) X.A (pyIter (.ref a)) (PIE X pins σ tg R) E s := by
  obtain ⟨vals, _, plain, _⟩ := I.tuple hq
  exact wpAny_pyIter_tuple plain (pi_one (tk := s.toks) I _ (turn_tuple a _) ⟨_, Heap.get?_push_size _ rfl, rfl, rfl⟩ q)
theorem it_str {pins : List (Addr × Obj)} {σ : L2.St} {H : Hp} {s : Shared} {R : It → Hp → Prop} {E : Value → Shared → Prop} {x : Str} {t : Tok} (I : Inv X pins σ H s) (q : R (L2.Its x) H) : wpAny (model X.prog X.w) X.A (pyIter (.str x t)) (PIE X pins σ tg R) E s := by
  by_cases hx : x.cps.all (· < 128) = true
  · exact wpAny_pyIter_ascii hx (pi_one (tk := s.toks) I _ (turn_str _ x t "str_ascii_iterator" (Or.inl rfl)) ⟨_, Heap.get?_push_size _ rfl, rfl, rfl⟩ q)
  · rw [Bool.not_eq_true] at hx
    exact wpAny_pyIter_wide hx (pi_one (tk := s.toks) I _ (turn_str _ x t "str_iterator" (Or.inr rfl)) ⟨_, Heap.get?_push_size _ rfl, rfl, rfl⟩ q)
/-- a list, a tuple or a text -/
def iDyn (K : PySem.W.Frag) (te : TE) : TI := fun σ H R => te σ H fun v H1 => (∃ a, v = .ref a ∧ (∃ xs, SqL K H1 a xs) ∧ R (Itl K a) H1) ∨ (∃ a, v = .ref a ∧ (∃ xs, SqT K H1 a xs) ∧ R (Itt K a) H1) ∨ ∃ x, v = .str x ∧ R (L2.Its x) H1
theorem pi_dyn {e : Expr} {te : TE} (he : PE X e te) : PI X tg e (iDyn X.K te) := ⟨fun pins s σ H R I h => thn (he.run pins s σ H _ I h) fun v s1 ⟨y, H1, I1, r1, q⟩ => by
  rcases q with ⟨a, rfl, ⟨xs, hq⟩, q⟩ | ⟨a, rfl, ⟨xs, hq⟩, q⟩ | ⟨x, rfl, q⟩
  · cases r1
    exact it_list I1 hq q
  · cases r1
    exact it_tup I1 hq q
  · obtain ⟨t, rfl⟩ := r1
    exact it_str I1 q⟩
end
theorem PIimp {X : Cx} {tg e : Expr} {t t' : TI} (p : PI X tg e t) (i : ∀ σ H R, t' σ H R → t σ H R) : PI X tg e t' := ⟨fun pins s σ H R I h => p.run pins s σ H R I (i σ H R h)⟩
section
variable {X : Cx} {CT : Cts} {cl : Cl} {W : WX} {tg : Expr} {vv : List Nat} {e e1 e2 e3 : Expr} {es : List Expr} {c c1 c2 c3 : E} {cs : List E} {s1 : S} {ss ts : List S} {st : Stmt} {sts stt : List Stmt} {pos apos p : Pos}
/-- the items' source evaluated -/
theorem tI_first {ik : IK} {σ : L2.St} {H : Hp} {R : It → Hp → Prop} {Q1 : List V → Hp → Prop} (hcl : GroC cl) (hI : tI X.K CT cl W ik cs σ H R)
    (k : ∀ xs vs h1 m1 G1 H1 i, HR X.K CT m1 G1 H1 h1 → RelL X.K m1 h1.length G1 xs vs → itsOf ik xs h1 = some i → (∀ J, IsW X.K CT J i m1 h1.length G1 → R J H1) → Q1 vs H1) : tA X.K CT cl W cs σ H Q1 := by
  obtain ⟨m, G, h, ρ, Rr, s, q⟩ := hI
  refine tA_first hcl Rr s q fun xs vs h1 m1 G1 H1 e1 e2 le R1 s1 rl q1 => ?_
  split at q1
  · rename_i i ei
    exact k xs vs h1 m1 G1 H1 i R1 rl ei fun J w => q1 m1 G1 H1 J Ex.refl Sub.refl R1 w
  · exact q1.elim
theorem tI_one {ik : IK} {σ : L2.St} {H : Hp} {R : It → Hp → Prop} {Q1 : VK} (hcl : GroC cl) (hI : tI X.K CT cl W ik [c] σ H R)
    (k : ∀ x v h1 m1 G1 H1 i, HR X.K CT m1 G1 H1 h1 → Rel X.K m1 h1.length G1 x v → itsOf ik [x] h1 = some i → (∀ J, IsW X.K CT J i m1 h1.length G1 → R J H1) → Q1 v H1) : tE X.K CT cl W c σ H Q1 := by
  obtain ⟨m, G, h, ρ, Rr, s, q⟩ := hI
  have z : itsE cl ik [c] ρ h = (ev cl c ρ h).bind fun x h1 => match itsOf ik [x] h1 with
      | some i => .ok i h1
      | none => .bad := by
    unfold itsE
    simp only [evs]
    cases ev cl c ρ h <;> rfl
  rw [z] at q
  refine tE_first hcl Rr s q fun x v h1 m1 G1 H1 e1 e2 le R1 s1 rl q1 => ?_
  split at q1
  · rename_i i ei
    exact k x v h1 m1 G1 H1 i R1 rl ei fun J w => q1 m1 G1 H1 J Ex.refl Sub.refl R1 w
  · exact q1.elim
theorem P_val (hcl : GroC cl) (h1 : PE X e (tE X.K CT cl W c)) : PI X tg e (tI X.K CT cl W .val [c]) := PIimp (pi_dyn h1) fun σ H R hI =>
  tI_one hcl hI fun x v h1 m1 G1 H1 i R1 r1 ei q => by
    rcases val_at R1 r1 ei with ⟨a, rfl, hv, L⟩ | ⟨a, xs, vs, rfl, rfl, hT, rl⟩ | ⟨s, rfl, rfl⟩
    · exact .inl ⟨a, rfl, hv, q _ (w_list L)⟩
    · exact .inr (.inl ⟨a, rfl, ⟨vs, R1.sub.sqT hT⟩, q _ (w_tup hT rl)⟩)
    · exact .inr (.inr ⟨_, rfl, q _ w_str⟩)
theorem sm62 {i : Int} (h : small62 i = true) : -(2 ^ 62) ≤ i ∧ i < 2 ^ 62 := of_decide_eq_true h
theorem P_rng1 (hcl : GroC cl) (hg : Gl X "range") (hm : X.mg "range" = none) (ha : PA X [e] (tA X.K CT cl W [c])) (hs : starEach [e] X.env = [(false, eval e X.env)]) : PI X tg (.Call (.Name "range" p) [e] [] pos) (tI X.K CT cl W .rng [c]) := PIimp (pi_range1 hg hm ha hs) fun σ H R hI =>
  tI_first hcl hI fun xs vs h1 m1 G1 H1 i R1 rl ei q => by
    unfold itsOf at ei
    simp only at ei
    split at ei
    · split at ei
      · rename_i hz
        injection ei with ei
        subst ei
        obtain ⟨v, rfl, rv⟩ := rl.one_inv
        obtain rfl := rv.int_inv
        have := sm62 hz
        exact ⟨_, rfl, this.1, this.2, q _ w_range⟩
      · cases ei
    · cases ei
theorem P_rng2 (hcl : GroC cl) (hg : Gl X "range") (hm : X.mg "range" = none) (ha : PA X [e1, e2] (tA X.K CT cl W [c1, c2])) (hs : starEach [e1, e2] X.env = [(false, eval e1 X.env), (false, eval e2 X.env)]) (hs2 : starEach [e2] X.env = [(false, eval e2 X.env)]) : PI X tg (.Call (.Name "range" p) [e1, e2] [] pos) (tI X.K CT cl W .rng2 [c1, c2]) := PIimp (pi_range2 hg hm ha hs hs2) fun σ H R hI =>
  tI_first hcl hI fun xs vs h1 m1 G1 H1 i R1 rl ei q => by
    unfold itsOf at ei
    simp only at ei
    split at ei
    · split at ei
      · rename_i hz
        injection ei with ei
        subst ei
        obtain ⟨v, w, rfl, rv, rw'⟩ := rl.two_inv
        obtain rfl := rv.int_inv
        obtain rfl := rw'.int_inv
        rw [Bool.and_eq_true] at hz
        have h1 := sm62 hz.1
        have h2 := sm62 hz.2
        exact ⟨_, _, rfl, ⟨h1.1, h1.2, h2.1, h2.2⟩, q _ w_range⟩
      · cases ei
    · cases ei
/-- a list's items -/
theorem lst_its {m : Nat → Addr} {G H : Hp} {h : PH} {v : PV} {u : V} {i : Its} (R : HR X.K CT m G H h) (r : Rel X.K m h.length G v u) (e : ofLst v h = some i) : ∃ a vs, u = .ref a ∧ SqL X.K H a vs ∧ LstAt X.K CT a i m h.length G := by
  unfold ofLst at e
  split at e
  · rename_i n
    obtain ⟨rfl, hn⟩ := r.ref_inv
    split at e
    · rename_i xs ek
      injection e with e
      subst e
      obtain ⟨vs, hH, rl⟩ := R.lst ek
      exact ⟨_, vs, rfl, .of hH, lstAt_of hn (.inl rfl)⟩
    · rename_i xs ek
      injection e with e
      subst e
      obtain ⟨vs, hH, rl⟩ := R.frz ek
      exact ⟨_, vs, rfl, hH, lstAt_of hn (.inr rfl)⟩
    · cases e
  · cases e
theorem itsE_lift {ik : IK} {ρ : Mi.Env} {h : PH} {f : Its → PH → R Fl} : ((evs cl cs ρ h).lift ρ fun vs h1 => match itsOf ik vs h1 with
    | some i => f i h1
    | none => .bad) = (itsE cl ik cs ρ h).lift ρ f := by
  unfold itsE
  cases evs cl cs ρ h with
  | ok vs h1 =>
    simp only [lift_ok, bind_ok]
    cases itsOf ik vs h1 <;> rfl
  | _ => rfl
theorem drop_get {α : Type} {xs : List α} {j : Nat} (h : j < xs.length) : xs.drop j = xs[j] :: xs.drop (j + 1) := List.drop_eq_getElem_cons h
theorem S_for {ik : IK} {t : T} (hcl : GroC cl) (hp : PassesOwn (model X.prog X.w) X.A X.env X.xe) (hc : X.calm = true) (hi : PI X tg e (tI X.K CT cl W ik cs)) (hg : PG X tg (tG X.K CT vv t)) (hb : PSs X sts (tSs X.K CT cl W ss)) (hs : ∀ x, foldedSetIterable e X.env x = pure x) :
    PS X (.For tg e sts [] pos) (tS X.K CT cl W (.for_ t ik cs ss)) :=
  PSimp (ps_for hp hc hi hg hb hs) fun D σ H ⟨m, G, h, ρ, R, s, q⟩ => by
    simp only [ex] at q
    have q := (congrArg (PostF X.K CT W D m G h.length) (itsE_lift (cl := cl) (cs := cs) (ik := ik) (ρ := ρ) (h := h) (f := fun i h1 => forL i.g (fun x ρ1 h2 => match bindT h2 t x ρ1 with
        | some ρ2 => exs cl ss ρ2 h2
        | none => .bad) i.xs ρ h1))).mp q
    refine ⟨m, G, h, ρ, R, s, (PostF.lift (rel := relI X.K CT) (itsE_gro hcl) s q).mono fun J H1 ⟨i, h1, m1, G1, e1, e2, R1, w, le, q1⟩ => ?_⟩
    refine ⟨fun j n σ H => n = i.xs.length - j ∧ j ≤ i.xs.length ∧ ∃ m G h ρ, Ex m1 m h1.length ∧ Sub G1 G ∧ h1.length ≤ h.length ∧ HR X.K CT m G H h ∧ SR X.K m h.length G ρ σ ∧ PostF X.K CT W D m G h.length (forL i.g (fun x ρ1 h2 => match bindT h2 t x ρ1 with
        | some ρ2 => exs cl ss ρ2 h2
        | none => .bad) (i.xs.drop j) ρ h), ⟨_, rfl, Nat.zero_le _, m1, G1, h1, ρ, Ex.refl, Sub.refl, Nat.le_refl _, R1, s.mono e1 le e2, q1⟩, ?_⟩
    rintro j n σ H ⟨rfl, hj, m, G, h, ρ, x1, x2, x3, R, s, q⟩
    by_cases hlt : j < i.xs.length
    · refine .inr ?_
      rw [drop_get hlt] at q
      unfold forL at q
      split at q
      · rename_i ok
        refine ⟨w.go j m G H h x1 x2.t x3 R ok hlt, fun σ' H' => ∃ m G h ρ, Ex m1 m h1.length ∧ Sub G1 G ∧ h1.length ≤ h.length ∧ HR X.K CT m G H' h ∧ SR X.K m h.length G ρ σ' ∧ PostF X.K CT W D m G h.length (forL i.g (fun x ρ1 h2 => match bindT h2 t x ρ1 with
          | some ρ2 => exs cl ss ρ2 h2
          | none => .bad) (i.xs.drop (j + 1)) ρ h), fun σ' H' z => ⟨_, by omega, rfl, hlt, z⟩, fun x H' y => ?_⟩
        obtain ⟨px, G', ep, sg, R', rx, _⟩ := w.yl j m G H h x H' x1 x2.t x3 R ok hlt y
        rw [List.getElem?_eq_getElem hlt] at ep
        injection ep with ep
        rw [ep] at q
        cases eb : bindT h t px ρ with
        | none =>
          simp only [eb] at q
          exact q.elim
        | some ρ2 =>
          simp only [eb] at q
          refine ⟨m, G', h, ρ, ρ2, px, R', s.mono Ex.refl (Nat.le_refl _) sg, rx, eb, fun σ2 s2 _ => ?_⟩
          have q' := PostF.later q Ex.refl (Nat.le_refl _) sg
          refine ⟨m, G', h, ρ2, R', s2, q'.seq (exs_gro hcl ss ρ2 h) fun f h3 m3 G3 H3 y1 y2 R3 l3 q3 => ?_⟩
          cases f with
          | nx ρ3 => exact fun σ' s' => ⟨m3, G3, h3, ρ3, x1.trans y1 x3, (x2.trans sg).trans y2, Nat.le_trans x3 l3, R3, s', q3⟩
          | ct ρ3 => exact fun σ' s' => ⟨m3, G3, h3, ρ3, x1.trans y1 x3, (x2.trans sg).trans y2, Nat.le_trans x3 l3, R3, s', q3⟩
          | bk ρ3 => exact q3.now R3
          | rt v => exact q3.now R3
          | xc x ρ3 => exact q3.now R3
      · exact q.elim
    · have ej : j = i.xs.length := by omega
      subst ej
      refine .inl ?_
      rw [List.drop_length] at q
      unfold forL at q
      split at q
      · rename_i ok
        exact ⟨w.st m G H h x1 x2.t x3 R ok, q.now R σ s⟩
      · exact q.elim
end
end Mi
set_option Elab.async false
set_option linter.all false
set_option maxRecDepth 100000
namespace Mi
open PySem PySem.Spec PyProof.Rows L2
def dropG (G : Hp) (D : Addr) : Hp := fun b => if b = D then none else G b
theorem dropG_ne {G : Hp} {D b : Addr} (h : b ≠ D) : dropG G D b = G b := if_neg h
theorem dropG_eq {G : Hp} {D : Addr} : dropG G D D = none := if_pos rfl
section
variable {K : PySem.W.Frag} {CT : Cts} {m : Nat → Addr} {N : Nat} {G G' H H' : Hp} {h : PH} {D a : Addr} {acc : List V}
theorem sqT_drop {vs : List V} (hD : G D = some (.lst acc)) (q : SqT K G a vs) : SqT K (dropG G D) a vs := by
  rcases q with (q | ⟨o, q⟩) | q
  · exact .inl (.inl (by rw [dropG_ne (fun z => by rw [z, hD] at q; cases q)]; exact q))
  · exact .inl (.inr ⟨o, by rw [dropG_ne (fun z => by rw [z, hD] at q; cases q)]; exact q⟩)
  · exact .inr q
mutual
theorem Rel.drop (hD : G D = some (.lst acc)) : ∀ {x : PV} {v : V}, Rel K m N G x v → Rel K m N (dropG G D) x v
  | _, _, .non => .non
  | _, _, .bl b => .bl b
  | _, _, .int i => .int i
  | _, _, .str s => .str s
  | _, _, .ref hn => .ref hn
  | _, _, .tup hs r => .tup (sqT_drop hD hs) (RelL.drop1 hD r)
theorem RelL.drop1 (hD : G D = some (.lst acc)) : ∀ {x : List PV} {v : List V}, RelL K m N G x v → RelL K m N (dropG G D) x v
  | _, _, .nil => .nil
  | _, _, .cons a r => .cons (Rel.drop hD a) (RelL.drop1 hD r)
end
theorem RelF.drop (hD : G D = some (.lst acc)) : ∀ {fs : List (String × PV)} {gs : List (Str × V)}, RelF K m N G fs gs → RelF K m N (dropG G D) fs gs
  | [], [], _ => trivial
  | (f, x) :: r, (g, v) :: s, ⟨a, b, c⟩ => ⟨a, b.drop hD, RelF.drop hD c⟩
theorem RelD.drop (hD : G D = some (.lst acc)) : ∀ {fs : List (PV × PV)} {gs : List (Key × V)}, RelD K m N G fs gs → RelD K m N (dropG G D) fs gs
  | [], [], _ => trivial
  | (f, x) :: r, (g, v) :: s, ⟨a, b, c⟩ => ⟨a, b.drop hD, RelD.drop hD c⟩
theorem RelT.drop (hD : G D = some (.lst acc)) : ∀ {fs : List (PV × PV)} {gs : List (NestedKey × Addr × V)}, RelT K m N G fs gs → RelT K m N (dropG G D) fs gs
  | [], [], _ => trivial
  | (f, x) :: r, (g, b, v) :: s, ⟨⟨a1, a2, a3⟩, b1, c⟩ => ⟨⟨a1, a2, a3.drop hD⟩, b1.drop hD, RelT.drop hD c⟩
theorem OR.drop {o : PO} (hD : G D = some (.lst acc)) (q : OR K CT m N G H a o) (k : nk o = true → H' a = H a) : OR K CT m N (dropG G D) H' a o := by
  cases o with
  | lst xs => obtain ⟨vs, q, r⟩ := q; exact ⟨vs, (k rfl).trans q, r.drop1 hD⟩
  | frz xs =>
    obtain ⟨vs, q, r⟩ := q
    refine ⟨vs, ?_, r.drop1 hD⟩
    rcases q with ⟨o, q⟩ | q
    · exact .inl ⟨o, by rw [dropG_ne (fun z => by rw [z, hD] at q; cases q)]; exact q⟩
    · exact .inr q
  | dic kvs => obtain ⟨vs, q, r⟩ := q; exact ⟨vs, (k rfl).trans q, r.drop hD⟩
  | dit kvs => obtain ⟨vs, q, r⟩ := q; exact ⟨vs, (k rfl).trans q, r.drop hD⟩
  | ldc kvs => obtain ⟨od, ks, q, r⟩ := q; exact ⟨od, ks, by rw [dropG_ne (fun z => by rw [z, hD] at q; cases q)]; exact q, r.drop hD⟩
  | ldt kvs => obtain ⟨od, ks, q, r⟩ := q; exact ⟨od, ks, by rw [dropG_ne (fun z => by rw [z, hD] at q; cases q)]; exact q, r.drop hD⟩
  | ins c fs => obtain ⟨C, dx, gs, ct, q, r⟩ := q; exact ⟨C, dx, gs, ct, (k rfl).trans q, r.drop hD⟩
  | exn c fs =>
    obtain ⟨C, d, ct, q, r⟩ := q
    have nl : ∀ a, EXO (.ref C) d a ≠ .lst acc := fun a z => by
      have z' : HO.ext _ = HO.lst acc := z
      cases z'
    refine ⟨C, d, ct, by rw [dropG_ne (fun z => by rw [z, hD] at q; exact nl _ (Option.some.inj q).symm)]; exact q, ?_⟩
    rcases r with r | ⟨dd, gs, h1, h2, h3⟩
    · exact .inl r
    · exact .inr ⟨dd, gs, h1, by rw [dropG_ne (fun z => by rw [z, hD] at h2; cases h2)]; exact h2, h3.drop hD⟩
  | lam => trivial
theorem code_nl {c : Addr} {q : Str} : LamX.CodeO c q ≠ .lst acc := fun z => by
  have z' : HO.ext _ = HO.lst acc := z
  cases z'
theorem Xt.drop (x : Xt K CT m N G H) (hD : G D = some (.lst acc)) (hl : H D = some (.lst acc)) (hH : ∀ b, b ≠ D → H' b = H b) : Xt K CT m N (dropG G D) H' := by
  have cd : ∀ {c : Addr} {q : Str}, G c = some (LamX.CodeO c q) → dropG G D c = some (LamX.CodeO c q) := fun {c q} e => by
    rw [dropG_ne (fun z => by rw [z, hD] at e; exact code_nl (Option.some.inj e).symm)]
    exact e
  refine ⟨fun y hy => ?_, fun p hp => ?_, fun b ps e => ?_⟩
  · obtain ⟨h1, h2, h3, h4, h5⟩ := x.gh y hy
    exact ⟨h1, h2, cd h3, h4, fun i z e => let ⟨v, e1, e2⟩ := h5 i z e; ⟨v, e1, e2.drop hD⟩⟩
  · obtain ⟨h1, ps, h2, h3, h4⟩ := x.tb p hp
    have ne : p.1 ≠ D := fun z => by
      rw [z, hl] at h2
      cases h2
    exact ⟨by rw [dropG_ne ne]; exact h1, ps, by rw [hH _ ne]; exact h2, h3, fun pos cv e => let ⟨c, e1, e2⟩ := h4 pos cv e; ⟨c, e1, cd e2⟩⟩
  · by_cases hb : b = D
    · rw [hb, dropG_eq] at e
      cases e
    · rw [dropG_ne hb] at e
      exact x.gt b ps e
theorem HR.unghost (R : HR K CT m G H h) (hD : G D = some (.lst acc)) (hH : ∀ b, b ≠ D → H' b = H b) : HR K CT m (dropG G D) H' h ∧ ∀ i o, h[i]? = some o → nk o = true → m i ≠ D := by
  have nd : ∀ i o, h[i]? = some o → nk o = true → m i ≠ D := fun i o e k z => by
    have := R.dj i o e k
    rw [z, hD] at this
    cases this
  refine ⟨⟨fun i o e => (R.obj i o e).drop hD fun k => hH _ (nd i o e k), R.inj, fun b o e => ?_, fun i o e k => ?_, R.xt.drop hD (R.sub _ _ hD) hH⟩, nd⟩
  · by_cases hb : b = D
    · rw [hb, dropG_eq] at e
      cases e
    · rw [dropG_ne hb] at e
      rw [hH b hb]
      exact R.sub b o e
  · rw [dropG_ne (nd i o e k)]
    exact R.dj i o e k
theorem HR.ghost (R : HR K CT m G H h) (hG : G D = none) (hH : H D = some (.lst acc)) (nd : ∀ i o, h[i]? = some o → nk o = true → m i ≠ D) : HR K CT m (upd G D (.lst acc)) H h ∧ Sub G (upd G D (.lst acc)) := by
  have sg : Sub G (upd G D (.lst acc)) := fun b o e => by
    rw [upd_ne (fun z => by rw [z, hG] at e; cases e)]
    exact e
  refine ⟨⟨fun i o e => (R.obj i o e).keep Ex.refl (Nat.le_refl _) sg fun _ => rfl, R.inj, fun b o e => ?_, fun i o e k => ?_, R.xt.grow sg (fun q ps e => ⟨e, upd_ne fun z => by rw [z, hH] at e; cases e⟩) fun b ps e => ?_⟩, sg⟩
  · by_cases hb : b = D
    · rw [hb, upd_same] at e
      rw [hb, hH]
      exact e
    · rw [upd_ne hb] at e
      exact R.sub b o e
  · rw [upd_ne (nd i o e k)]
    exact R.dj i o e k
  · by_cases hb : b = D
    · rw [hb, upd_same] at e
      cases e
    · rw [upd_ne hb] at e
      exact R.xt.gt b ps e
theorem Sub.dropG (t : Sub G G') (hG : G D = none) : Sub G (Mi.dropG G' D) := fun b o e => by
  rw [dropG_ne (fun z => by rw [z, hG] at e; cases e)]
  exact t b o e
end
theorem wipe_idem (σ : L2.St) (vs : List Nat) : wipe (wipe σ vs) vs = wipe σ vs := by
  apply List.ext_getElem?
  intro j
  by_cases hj : j ∈ vs
  · by_cases hl : j < σ.length
    · rw [wipe_in hj (by rw [wipe_length]; exact hl), wipe_in hj hl]
    · rw [List.getElem?_eq_none (by rw [wipe_length, wipe_length]; omega), List.getElem?_eq_none (by rw [wipe_length]; omega)]
  · rw [wipe_out hj]
theorem wipeE_some : ∀ {vs : List Nat} {ρ : Mi.Env} {i : Nat} {x : PV}, (wipeE ρ vs)[i]? = some (some x) → ρ[i]? = some (some x) ∧ i ∉ vs
  | [], ρ, i, x, h => ⟨h, by simp⟩
  | v :: vs, ρ, i, x, h => by
    obtain ⟨h1, h2⟩ := wipeE_some (vs := vs) h
    by_cases hi : v = i
    · subst hi
      by_cases hl : v < ρ.length
      · rw [List.getElem?_set_self hl] at h1; cases h1
      · rw [List.getElem?_eq_none (by rw [List.length_set]; omega)] at h1; cases h1
    · rw [List.getElem?_set_ne hi] at h1
      exact ⟨h1, fun z => (List.mem_cons.mp z).elim (fun z => hi z.symm) h2⟩
theorem wipeE_length : ∀ (vs : List Nat) (ρ : Mi.Env), (wipeE ρ vs).length = ρ.length
  | [], _ => rfl
  | v :: vs, ρ => by rw [wipeE, wipeE_length vs, List.length_set]
theorem SR.wipe {K : PySem.W.Frag} {m : Nat → Addr} {N : Nat} {G : Hp} {ρ : Mi.Env} {σ : L2.St} (s : SR K m N G ρ σ) (vs : List Nat) : SR K m N G (wipeE ρ vs) (L2.wipe σ vs) :=
  ⟨by rw [wipeE_length, wipe_length]; exact s.1, fun i x e => by
    obtain ⟨h1, h2⟩ := wipeE_some e
    rw [wipe_out h2]
    exact s.2 i x h1⟩
abbrev W0 : WX := fun _ _ _ _ => False
def tTs (K : PySem.W.Frag) (CT : Cts) (cl : Cl) (W : WX) (cs : List E) : TT := fun σ H Q => ∃ m G h ρ, HR K CT m G H h ∧ SR K m h.length G ρ σ ∧ Post K CT relB W σ m G h.length Q (evc cl cs ρ h)
section
variable {X : Cx} {CT : Cts} {cl : Cl} {W : WX} {tg : Expr} {vv : List Nat} {e e1 e2 e3 : Expr} {es : List Expr} {c c1 c2 c3 : E} {cs : List E} {s1 : S} {ss ts : List S} {st : Stmt} {sts stt : List Stmt} {pos apos p : Pos}
theorem T_nil : PTs X [] (tTs X.K CT cl W []) := ⟨fun pins s σ H Q I ⟨m, G, h, ρ, R, sr, q⟩ => pts_nil.run pins s σ H Q I (by
  simp only [evc] at q
  exact q.now R rfl)⟩
theorem evc_one {ρ : Mi.Env} {h : PH} : evc cl [c] ρ h = tst cl c ρ h := by
  unfold tst
  simp only [evc]
  cases ev cl c ρ h with
  | ok x h1 =>
    simp only [bind_ok]
    unfold truR
    cases tru x h1 with
    | none => rfl
    | some b => cases b <;> rfl
  | _ => rfl
theorem T_one (h1 : PT X e (tT X.K CT cl W c)) : PTs X [e] (tTs X.K CT cl W [c]) := ⟨fun pins s σ H Q I ⟨m, G, h, ρ, R, sr, q⟩ => (pts_one h1).run pins s σ H Q I (by
  rw [evc_one] at q
  exact ⟨m, G, h, ρ, R, sr, q⟩)⟩
/-- one turn's step -/
abbrev lcS (cl : Cl) (t : T) (own : List Nat) (ts : List E) (ce : E) (ρ : Mi.Env) : PV → PH → R (Option PV) := fun x h2 => match bindT h2 t x (wipeE ρ own) with
  | some ρ1 => (evc cl ts ρ1 h2).bind fun b h3 => if b then (ev cl ce ρ1 h3).bind fun y h4 => .ok (some y) h4 else .ok none h3
  | none => .bad
theorem lc_bind {α : Type} {ik : IK} {ρ : Mi.Env} {h : PH} {f : Its → PH → R α} : ((evs cl cs ρ h).bind fun vs h1 => match itsOf ik vs h1 with
    | some i => f i h1
    | none => .bad) = (itsE cl ik cs ρ h).bind f := by
  unfold itsE
  cases evs cl cs ρ h with
  | ok vs h1 =>
    simp only [bind_ok]
    cases itsOf ik vs h1 <;> rfl
  | _ => rfl
structure LcSt (K : PySem.W.Frag) (CT : Cts) (m : Nat → Addr) (G H : Hp) (h : PH) (D : Addr) (acc : List V) : Prop where
  R : HR K CT m G H h
  g : G D = none
  d : H D = some (.lst acc)
  n : ∀ i o, h[i]? = some o → nk o = true → m i ≠ D
def ContL (K : PySem.W.Frag) (CT : Cts) (D : Addr) (m : Nat → Addr) (G : Hp) (N : Nat) (acc : List V) (Nx : Hp → Prop) : R (List PV) → Prop
  | .ok zs h' => ∀ m' G' H' vs, Ex m m' N → Sub G G' → LcSt K CT m' G' H' h' D (acc ++ vs) → RelL K m' h'.length G' zs vs → Nx H'
  | _ => False
theorem ContL.later {K : PySem.W.Frag} {D : Addr} {m m1 : Nat → Addr} {G G1 : Hp} {N N1 : Nat} {acc : List V} {Nx : Hp → Prop} {r : R (List PV)} (p : ContL K CT D m G N acc Nx r) (e : Ex m m1 N) (l : N ≤ N1) (t : Sub G G1) : ContL K CT D m1 G1 N1 acc Nx r := by
  cases r with
  | ok zs h' => exact fun m' G' H' vs e1 e2 => p m' G' H' vs (e.trans e1 l) (t.trans e2)
  | exc x h' => exact p
  | bad => exact p
/-- the loop: each turn takes the list from acc to acc and the turn's part -/
theorem loop_gen {K : PySem.W.Frag} {J : It} {i : Its} {m1 : Nat → Addr} {N1 : Nat} {G1 H : Hp} {h : PH} {D : Addr} {acc : List V} {Nx : Hp → Prop} {step : Nat → PV → PH → R (List PV)} {Tn : V → Hp → (Hp → Prop) → Prop} (Bd : Nat → Nat → Prop) (b0 : Bd acc.length 0) (bs : ∀ n j px h ys h1, Bd n j → nox (step n px h) = .ok ys h1 → Bd (n + ys.length) (j + 1)) (w : IsW K CT J i m1 N1 G1)
    {m : Nat → Addr} {G : Hp} (hgro : ∀ n x h, Gro h (step n x h)) (x1 : Ex m1 m N1) (x2 : Sub G1 G) (x3 : N1 ≤ h.length) (L : LcSt K CT m G H h D acc) (cont : ContL K CT D m G h.length acc Nx (lcC i.g step acc.length i.xs h))
    (turn : ∀ px x m G H h acc Nx1 j, j < i.xs.length → Bd acc.length j → Ex m1 m N1 → Sub G1 G → N1 ≤ h.length → LcSt K CT m G H h D acc → Rel K m h.length G px x → ContL K CT D m G h.length acc Nx1 (nox (step acc.length px h)) → Tn x H Nx1) :
    ∃ W : Nat → Nat → Hp → Prop, (∃ k, W 0 k H) ∧ ∀ j k H, W j k H → (J.stop j H ∧ Nx H) ∨ (J.go j H ∧ ∃ Nx1 : Hp → Prop, (∀ H', Nx1 H' → ∃ k', k' < k ∧ W (j + 1) k' H') ∧ ∀ x H', J.yld j H x H' → Tn x H' Nx1) := by
  refine ⟨fun j k H => k = i.xs.length - j ∧ j ≤ i.xs.length ∧ ∃ (m : Nat → Addr) (G : Hp) (h : PH) (acc : List V), Bd acc.length j ∧ Ex m1 m N1 ∧ Sub G1 G ∧ N1 ≤ h.length ∧ LcSt K CT m G H h D acc ∧ ContL K CT D m G h.length acc Nx (lcC i.g step acc.length (i.xs.drop j) h),
    ⟨_, rfl, Nat.zero_le _, m, G, h, acc, b0, x1, x2, x3, L, cont⟩, ?_⟩
  rintro j k H ⟨rfl, hj, m, G, h, acc, bd, x1, x2, x3, L, q⟩
  by_cases hlt : j < i.xs.length
  · refine .inr ?_
    rw [List.drop_eq_getElem_cons hlt] at q
    unfold lcC at q
    split at q
    · rename_i okg
      refine ⟨w.go j m G H h x1 x2.t x3 L.R okg hlt, fun H => ∃ (m : Nat → Addr) (G : Hp) (h : PH) (acc : List V), Bd acc.length (j + 1) ∧ Ex m1 m N1 ∧ Sub G1 G ∧ N1 ≤ h.length ∧ LcSt K CT m G H h D acc ∧ ContL K CT D m G h.length acc Nx (lcC i.g step acc.length (i.xs.drop (j + 1)) h),
        fun H' z => ⟨_, by omega, rfl, hlt, z⟩, fun x H' y => ?_⟩
      obtain ⟨px, G', ep, sg, R', rx, kp⟩ := w.yl j m G H h x H' x1 x2.t x3 L.R okg hlt y
      rw [List.getElem?_eq_getElem hlt] at ep
      injection ep with ep
      rw [ep] at q
      obtain ⟨kp1, kp2⟩ := kp D (by rw [L.d]; simp)
      refine turn px x m G' H' h acc _ j hlt bd x1 (x2.trans sg) x3 ⟨R', kp2.trans L.g, kp1.trans L.d, L.n⟩ rx ?_
      have hg := nox_gro (hgro acc.length px h)
      have q := ContL.later q Ex.refl (Nat.le_refl _) sg
      cases es : nox (step acc.length px h) with
      | exc x h1 => rw [es] at q; exact q.elim
      | bad => rw [es] at q; exact q.elim
      | ok ys h1 =>
        rw [es] at q hg
        have l1 : h.length ≤ h1.length := hg
        intro m3 G3 H3 vs y1 y2 L3 rl
        have el : (acc ++ vs).length = acc.length + ys.length := by rw [List.length_append, rl.length]
        refine ⟨m3, G3, h1, acc ++ vs, by rw [el]; exact bs _ _ _ _ _ _ bd es, x1.trans y1 x3, (x2.trans sg).trans y2, Nat.le_trans x3 l1, L3, ?_⟩
        rw [el]
        simp only [bind_ok] at q
        cases ez : lcC i.g step (acc.length + ys.length) (i.xs.drop (j + 1)) h1 with
        | exc x h2 => rw [ez] at q; exact q.elim
        | bad => rw [ez] at q; exact q.elim
        | ok zs h2 =>
          have hg2 := lcC_gro (g := i.g) hgro (acc.length + ys.length) (i.xs.drop (j + 1)) h1
          rw [ez] at q hg2
          have l2 : h1.length ≤ h2.length := hg2
          intro m4 G4 H4 us z1 z2 L4 rz
          refine q m4 G4 H4 (vs ++ us) (y1.trans z1 l1) (y2.trans z2) ?_ ((rl.mono z1 l2 z2).append rz)
          rw [← List.append_assoc]
          exact L4
    · exact q.elim
  · have ej : j = i.xs.length := by omega
    subst ej
    refine .inl ?_
    rw [List.drop_length] at q
    unfold lcC at q
    split at q
    · rename_i okg
      exact ⟨w.st m G H h x1 x2.t x3 L.R okg, q m G H [] Ex.refl Sub.refl (by rw [List.append_nil]; exact L) .nil⟩
    · exact q.elim
/-- a turn of the plain kind -/
theorem turn_one {t : T} {tc : List E} {ce : E} {ow : List Nat} {m1 : Nat → Addr} {N1 : Nat} {G1 : Hp} {ρ : Mi.Env} {σ : L2.St} {D : Addr} {K : PySem.W.Frag} (hcl : GroC cl) (s : SR K m1 N1 G1 ρ σ) (px : PV) (x : V) (m : Nat → Addr) (G H : Hp) (h : PH) (acc : List V) (Nx1 : Hp → Prop)
    (x1 : Ex m1 m N1) (x2 : Sub G1 G) (x3 : N1 ≤ h.length) (L : LcSt K CT m G H h D acc) (rx : Rel K m h.length G px x) (hz : acc.length < sizeLine) (q : ContL K CT D m G h.length acc Nx1 (nox ((lcS cl t ow tc ce ρ px h).bind fun o h1 => .ok o.toList h1))) :
    tG K CT ow t x (wipe σ ow) H fun σ2 H2 => wipe σ2 ow = wipe σ ow ∧ tTs K CT cl W0 tc σ2 H2 fun b H3 => if b = true then tE K CT cl W0 ce σ2 H3 fun y H4 => ∃ acc, H4 D = some (.lst acc) ∧ acc.length < sizeLine ∧ Nx1 (upd H4 D (.lst (acc ++ [y]))) else Nx1 H3 := by
  obtain ⟨Rg, sg2⟩ := L.R.ghost L.g L.d L.n
  cases eb : bindT h t px (wipeE ρ ow) with
  | none =>
    simp only [lcS, eb, nox, bind_bad] at q
    exact q.elim
  | some ρ1 =>
    have ez : lcS cl t ow tc ce ρ px h = (evc cl tc ρ1 h).bind fun b h3 => if b then (ev cl ce ρ1 h3).bind fun y h4 => .ok (some y) h4 else .ok none h3 := by simp only [lcS, eb]
    rw [ez] at q
    have sw := (s.mono x1 x3 x2).wipe ow
    refine ⟨m, _, h, wipeE ρ ow, ρ1, px, Rg, sw.mono Ex.refl (Nat.le_refl _) sg2, rx.mono Ex.refl (Nat.le_refl _) sg2, eb, fun σ2 s2 w2 => ⟨w2.trans (wipe_idem σ ow), m, _, h, ρ1, Rg, s2, ?_⟩⟩
    have g1 := evc_gro hcl tc ρ1 h
    cases ec : evc cl tc ρ1 h with
    | exc x h3 =>
      simp only [ec, bind_exc, nox] at q
      exact q.elim
    | bad =>
      simp only [ec, bind_bad, nox] at q
      exact q.elim
    | ok b h3 =>
      rw [ec] at g1
      have l3 : h.length ≤ h3.length := g1
      simp only [ec, bind_ok] at q
      intro m3 G3 H3 b' y1 y2 R3 eb'
      have eb' : b = b' := eb'
      subst eb'
      have G3D : G3 D = some (.lst acc) := y2 D _ upd_same
      have sg3 : Sub G G3 := sg2.trans y2
      cases b with
      | false =>
        rw [if_neg (by simp)]
        simp only [Bool.false_eq_true, if_false, nox, bind_ok, Option.toList] at q
        obtain ⟨R4, nd4⟩ := R3.unghost G3D (H' := H3) fun _ _ => rfl
        exact q m3 (dropG G3 D) H3 [] y1 (sg3.dropG L.g) ⟨R4, dropG_eq, by rw [List.append_nil]; exact R3.sub D _ G3D, nd4⟩ .nil
      | true =>
        rw [if_pos rfl]
        simp only [if_true] at q
        refine ⟨m3, G3, h3, ρ1, R3, s2.mono y1 l3 y2, ?_⟩
        have g2 := ev_gro hcl ce ρ1 h3
        cases ee : ev cl ce ρ1 h3 with
        | exc x h4 =>
          simp only [ee, bind_exc, nox] at q
          exact q.elim
        | bad =>
          simp only [ee, bind_bad, nox] at q
          exact q.elim
        | ok yv h4 =>
          simp only [ee, bind_ok, nox, Option.toList] at q
          intro m4 G4 H4 v z1 z2 R4 rv
          have G4D : G4 D = some (.lst acc) := z2 D _ G3D
          obtain ⟨R5, nd5⟩ := R4.unghost G4D (H' := upd H4 D (.lst (acc ++ [v]))) fun _ hb => upd_ne hb
          exact ⟨acc, R4.sub D _ G4D, hz, q m4 (dropG G4 D) _ [v] (y1.trans z1 l3) ((sg3.trans z2).dropG L.g) ⟨R5, dropG_eq, upd_same, nd5⟩ (.cons (rv.drop G4D) .nil)⟩
theorem nox_bind {α β : Type} {r : R α} {f : α → PH → R β} (hf : ∀ a h, nox (f a h) = f a h) : nox (r.bind f) = (nox r).bind f := by
  cases r with
  | ok a h => exact hf a h
  | exc x h => rfl
  | bad => rfl
theorem lcL_C {g : Gd} {stp : PV → PH → R (Option PV)} : ∀ (n : Nat) (xs : List PV) (h : PH), lcC g (fun _ x h => (stp x h).bind fun o h1 => .ok o.toList h1) n xs h = lcL g stp xs h
  | _, [], h => rfl
  | n, x :: r, h => by
    unfold lcC lcL
    split
    · rw [nox_bind fun _ _ => rfl]
      cases nox (stp x h) with
      | ok o h1 =>
        simp only [bind_ok]
        rw [lcL_C]
        cases lcL g stp r h1 with
        | ok zs h2 =>
          simp only [bind_ok]
          cases o <;> rfl
        | _ => rfl
      | _ => rfl
    · rfl
theorem lcL_noexc {g : Gd} {stp : PV → PH → R (Option PV)} : ∀ {xs : List PV} {h h' : PH} {x : PX}, lcL g stp xs h = .exc x h' → False
  | [], h, h', x, e => by
    unfold lcL at e
    split at e <;> cases e
  | y :: r, h, h', x, e => by
    unfold lcL at e
    split at e
    · cases e1 : nox (stp y h) with
      | ok o h1 =>
        rw [e1] at e
        simp only [bind_ok] at e
        cases e2 : lcL g stp r h1 with
        | ok zs h2 => rw [e2] at e; cases e
        | exc _ _ => exact lcL_noexc e2
        | bad => rw [e2] at e; cases e
      | exc _ _ =>
        unfold nox at e1
        split at e1
        · cases e1
        · rename_i hne
          exact hne _ _ e1
      | bad => rw [e1] at e; cases e
    · cases e
theorem lcC_noexc {g : Gd} {stp : Nat → PV → PH → R (List PV)} : ∀ {n : Nat} {xs : List PV} {h h' : PH} {x : PX}, lcC g stp n xs h = .exc x h' → False
  | n, [], h, h', x, e => by
    unfold lcC at e
    split at e <;> cases e
  | n, y :: r, h, h', x, e => by
    unfold lcC at e
    split at e
    · cases e1 : nox (stp n y h) with
      | ok o h1 =>
        rw [e1] at e
        simp only [bind_ok] at e
        cases e2 : lcC g stp (n + o.length) r h1 with
        | ok zs h2 => rw [e2] at e; cases e
        | exc _ _ => exact lcC_noexc e2
        | bad => rw [e2] at e; cases e
      | exc _ _ =>
        unfold nox at e1
        split at e1
        · cases e1
        · rename_i hne
          exact hne _ _ e1
      | bad => rw [e1] at e; cases e
    · cases e
/-- where a comprehension begins and ends -/
theorem lc_begin {K : PySem.W.Frag} {m : Nat → Addr} {G H : Hp} {h : PH} {D : Addr} (R : HR K CT m G H h) (hD : H D = none) : LcSt K CT m G (upd H D (.lst [])) h D [] := by
  have gD : G D = none := by
    cases z : G D with
    | none => rfl
    | some u => rw [R.sub D u z] at hD; cases hD
  have nd : ∀ i o, h[i]? = some o → nk o = true → m i ≠ D := fun i o e k z => R.nn e k (by rw [z]; exact hD)
  refine ⟨⟨fun i o e => (R.obj i o e).keep Ex.refl (Nat.le_refl _) Sub.refl fun k => upd_ne (nd i o e k), R.inj, fun b o e => ?_, R.dj, R.xt.keep Ex.refl (Nat.le_refl _) fun p ps e => (upd_ne fun z => by rw [z, hD] at e; cases e).trans e⟩, gD, upd_same, nd⟩
  rw [upd_ne (fun z => by rw [z, gD] at e; cases e)]
  exact R.sub b o e
theorem lc_end {K : PySem.W.Frag} {m : Nat → Addr} {G H : Hp} {h : PH} {D : Addr} {acc : List V} {ys : List PV} {σ : L2.St} {Q : VK} (L : LcSt K CT m G H h D acc) (ry : RelL K m h.length G ys acc) (q : Post K CT (Rel K) W σ m G h.length Q (.ok (.ref h.length) (h ++ [PO.lst ys]))) : Q (.ref D) H := by
  have R0 : HR K CT m G (dropG H D) h := ⟨fun i o e => (L.R.obj i o e).keep Ex.refl (Nat.le_refl _) Sub.refl fun k => dropG_ne (L.n i o e k), L.R.inj, L.R.sub.dropG L.g, L.R.dj, L.R.xt.keep Ex.refl (Nat.le_refl _) fun p ps e => (dropG_ne fun z => by rw [z, L.d] at e; cases e).trans e⟩
  have R' := R0.new (p := D) (o := .lst ys) (H' := H) dropG_eq (fun b hb => by
    by_cases hz : b = D
    · exact absurd (by rw [hz]; exact dropG_eq) hb
    · exact (dropG_ne hz).symm) ⟨acc, L.d, ry.mono mx_ex (Nat.le_succ _) Sub.refl⟩ rfl
  have z : Rel K (mx m h.length D) (h ++ [PO.lst ys]).length G (.ref h.length) (.ref (mx m h.length D h.length)) := .ref (by rw [List.length_append]; simp)
  rw [mx_new] at z
  exact q _ G _ _ mx_ex Sub.refl R' z
theorem lcS_gro {t : T} {ow : List Nat} {tc : List E} {ce : E} {ρ : Mi.Env} (hcl : GroC cl) (x : PV) (h : PH) : Gro h (lcS cl t ow tc ce ρ x h) := by
  unfold lcS
  split
  · exact (evc_gro hcl tc _ h).bind fun b h3 _ => by
      split
      · exact (ev_gro hcl ce _ h3).bind fun y h4 _ => Gro.refl
      · exact Gro.refl
  · trivial
theorem lc_imp {ik : IK} {t : T} {tc : List E} {ce : E} {ow : List Nat} (hcl : GroC cl) {σ : L2.St} {H : Hp} {Q : VK} (hE : tE X.K CT cl W (.lc ce t ik cs tc ow) σ H Q) :
    tLc (tI X.K CT cl W ik cs) (tG X.K CT ow t) (tTs X.K CT cl W0 tc) (tE X.K CT cl W0 ce) ow σ H Q := by
  obtain ⟨m, G, h, ρ, R, s, q⟩ := hE
  simp only [ev] at q
  have q := (congrArg (Post X.K CT (Rel X.K) W σ m G h.length Q) (lc_bind (cl := cl) (cs := cs) (ik := ik) (ρ := ρ) (h := h) (f := fun i h1 => if i.xs.length < szl then
        (lcL i.g (lcS cl t ow tc ce ρ) i.xs h1).bind fun ys h5 => .ok (.ref h5.length) (h5 ++ [.lst ys])
      else .bad))).mp q
  refine ⟨m, G, h, ρ, R, s, (Post.bind (rel1 := relI X.K CT) (itsE_gro hcl) q).mono fun J H1 ⟨i, h1, m1, G1, e1, e2, R1, w, le, q1⟩ => ?_⟩
  intro D hD
  split at q1
  · rename_i hsz
    refine loop_gen (step := fun _ x h => (lcS cl t ow tc ce ρ x h).bind fun o h1 => .ok o.toList h1) (acc := []) (fun n j => n ≤ j) (Nat.le_refl _) (fun n j px h ys h1 hb e => ?_) w (fun _ x h => (lcS_gro hcl x h).bind fun _ _ _ => Gro.refl) Ex.refl Sub.refl (Nat.le_refl _) (lc_begin R1 hD) ?_
      fun px x m G H h acc Nx1 j hj hb x1 x2 x3 L rx q => turn_one hcl (s.mono e1 le e2) px x m G H h acc Nx1 x1 x2 x3 L rx (by rw [← szl_eq]; omega) q
    · cases el : lcS cl t ow tc ce ρ px h with
      | ok o h2 =>
        rw [el] at e
        simp only [bind_ok, nox] at e
        injection e with e
        subst e
        cases o <;> simp <;> omega
      | exc _ _ => rw [el] at e; cases e
      | bad => rw [el] at e; cases e
    · rw [lcL_C]
      cases ez : lcL i.g (lcS cl t ow tc ce ρ) i.xs h1 with
      | ok zs h2 =>
        have hg := lcL_gro (g := i.g) (fun x h => lcS_gro (t := t) (ow := ow) (tc := tc) (ce := ce) (ρ := ρ) hcl x h) i.xs h1
        rw [ez] at q1 hg
        exact fun m' G' H' vs y1 y2 L rl => lc_end L rl (Post.later q1 y1 hg y2)
      | exc _ _ => exact (lcL_noexc ez).elim
      | bad => rw [ez] at q1; exact q1.elim
  · exact q1.elim
theorem I_lc {elt iter : Expr} {ifs : List Expr} {scope : Scope} {own : List (Str × Nat)} {ik : IK} {t : T} {tc : List E} {ce : E} {ow : List Nat} (how : ow = own.map (·.2)) (hcl : GroC cl) (hc : X.calm = true) (hN : X.N.Nodup) (hi : PI X tg iter (tI X.K CT cl W ik cs)) (ok : BlkOk X.N X.env.scope scope own)
    (hg : ∀ (s : Shared) (H : Hp) (C : Addr) (l : List (Str × Addr)) (fp : List Addr), PG (X.blk s H scope (compEnvC scope l C X.env) fp) tg (tG X.K CT ow t))
    (ht : ∀ (s : Shared) (H : Hp) (C : Addr) (l : List (Str × Addr)) (fp : List Addr), PTs (X.blk s H scope (compEnvC scope l C X.env) fp) ifs (tTs X.K CT cl W0 tc))
    (he : ∀ (s : Shared) (H : Hp) (C : Addr) (l : List (Str × Addr)) (fp : List Addr), PE (X.blk s H scope (compEnvC scope l C X.env) fp) elt (tE X.K CT cl W0 ce)) (hs : ∀ x, foldedSetIterable iter X.env x = pure x) :
    PE X (.ListComp elt [⟨tg, iter, ifs, 0⟩] scope pos) (tE X.K CT cl W (.lc ce t ik cs tc ow)) := by
  refine PEimp (pe_lc hc hN hi ok hg ht he hs) fun σ H Q hE => ?_
  rw [← how]
  exact lc_imp hcl hE
end
end Mi
set_option Elab.async false
set_option linter.all false
set_option maxRecDepth 100000
namespace Mi
open PySem PySem.Spec PyProof.Rows L2
section
variable {X : Cx} {CT : Cts} {cl : Cl} {W : WX} {tg : Expr} {vv : List Nat} {e e1 e2 e3 : Expr} {es : List Expr} {c c1 c2 c3 : E} {cs : List E} {s1 : S} {ss ts : List S} {st : Stmt} {sts stt : List Stmt} {pos apos p : Pos}
/-- raise C(e, ..), C without an __init__ of its own -/
theorem S_raise {n : String} {C : Addr} {bmB : List Value} {B newId initId : String} {x : Str} {rpos : Pos} (hcl : GroC cl) (hc : X.calm = true) (tk : Takes X W) (ct : CT.exc n C) (F : ExcBaseFacts B newId initId bmB) (q : PySem.W.excIn X.K C bmB newId = true) (gC : X.mg x = some (.ref C))
    (kC : PySem.W.keepIn X.K (.ref C) = true) (r : Raises X (.ref C)) (hg : Gl X x) (ha : PA X (e :: es) (tA X.K CT cl W cs)) (hdb : (x == ("__debug__" : Str)) = false)
    (he : starEach (e :: es) X.env = (false, eval e X.env) :: starEach es X.env) (hpl : (backTo pos (starEach es X.env)).any (·.1) = false) : PS X (.Raise (some (.Call (.Name x p) (e :: es) [] pos)) none rpos) (tS X.K CT cl W (.raise n cs)) :=
  PSimp (ps_raise hc tk (pmk_ownA F q gC kC r hg ha hdb he hpl)) fun D σ H ⟨m, G, h, ρ, R, s, z⟩ => by
    simp only [ex] at z
    refine sA_first hcl R s z fun xs vs h1 m1 G1 H1 _ _ _ R1 s1 rl q1 => ?_
    split at q1
    · rename_i hl
      exact ⟨by rw [← rl.length, ← szl_eq]; exact hl, q1.now R1 σ (.ref C) none s1 ⟨C, ct, rfl, .inl ⟨rfl, rfl⟩⟩⟩
    · exact q1.elim
theorem PostF.nox {K : PySem.W.Frag} {D : Ends} {m : Nat → Addr} {G : Hp} {N : Nat} {r : R Fl} (q : PostF K CT W D m G N (noxF r)) : PostF K CT W0 D m G N r := by
  cases r with
  | ok f h' =>
    cases f with
    | xc x ρ => exact q.elim
    | _ => exact q
  | exc x h' => exact q.elim
  | bad => exact q.elim
/-- an object that is never written, laid where G knows it -/
theorem HR.newF {K : PySem.W.Frag} {m : Nat → Addr} {G H : Hp} {h : PH} (R : HR K CT m G H h) {p : Addr} {o : PO} (q : OR K CT (mx m h.length p) (h.length + 1) G H p o) (ko : nk o = false) : HR K CT (mx m h.length p) G H (h ++ [o]) := by
  have no : ∀ {i : Nat} {u : PO}, (h ++ [o])[i]? = some u → nk u = true → i < h.length ∧ h[i]? = some u := fun {i u} e k => by
    rcases getElem?_app e with z | ⟨_, z⟩
    · exact z
    · rw [z, ko] at k
      cases k
  refine ⟨fun i u e => ?_, fun i j oi oj ei ej ne ki kj => ?_, R.sub, fun i u e k => ?_, R.xt.keep mx_ex (by simp) fun _ _ e => e⟩
  · rw [List.length_append]
    rcases getElem?_app e with ⟨hl, e'⟩ | ⟨rfl, rfl⟩
    · rw [mx_old hl]
      exact (R.obj i u e').keep mx_ex (Nat.le_succ _) Sub.refl fun _ => rfl
    · rw [mx_new]
      exact q
  · obtain ⟨hi, ei'⟩ := no ei ki
    obtain ⟨hj, ej'⟩ := no ej kj
    rw [mx_old hi, mx_old hj]
    exact R.inj i j oi oj ei' ej' ne ki kj
  · obtain ⟨hl, e'⟩ := no e k
    rw [mx_old hl]
    exact R.dj i u e' k
theorem PostF.un {K : PySem.W.Frag} {D : Ends} {m : Nat → Addr} {G : Hp} {N i : Nat} {r : R Fl} (q : PostF K CT W D m G N (unF i r)) :
    PostF K CT W0 { nx := fun σ H => D.nx (σ.set i none) H, rt := D.rt, bk := fun σ H => D.bk (σ.set i none) H, ct := fun σ H => D.ct (σ.set i none) H } m G N r := by
  cases r with
  | ok f h' =>
    cases f with
    | xc x ρ => exact q.elim
    | rt v => exact q
    | nx ρ => exact fun m1 G1 H1 e1 e2 e3 σ s => q m1 G1 H1 e1 e2 e3 _ (s.none i)
    | bk ρ => exact fun m1 G1 H1 e1 e2 e3 σ s => q m1 G1 H1 e1 e2 e3 _ (s.none i)
    | ct ρ => exact fun m1 G1 H1 e1 e2 e3 σ s => q m1 G1 H1 e1 e2 e3 _ (s.none i)
  | exc x h' => exact q.elim
  | bad => exact q.elim
/-- try: .. except x as n: .. -/
theorem S_tryA {x n : Str} {v : Value} {ks : List String} {i : Nat} {b0 : Stmt} {np pos' : Pos} (hcl : GroC cl) (hst : X.stack = X.env :: X.outer) (hf : X.env.frame = some X.env.locals) (hN : X.N.Nodup) (hi : X.N[i]? = some n) (hln : X.env.kindOf n = some .local) (hc : Names X x v) (tk : Takes X W) (hex : ∀ c C, CT.exc c C → PySem.W.exmOne X.K (.ref C) v = some (decide (c ∈ ks)))
    (hb : ∀ (W : WX) (pn : List (Addr × Obj)) (xe : Value → Shared → Prop), Takes (X.tr pn xe) W → PassesOwn (model X.prog X.w) X.A X.env xe → PSs (X.tr pn xe) sts (tSs X.K CT cl W ss))
    (hsu : ∀ (a : Addr) (pn : List (Addr × Obj)), PSs (X.suite a pn) (b0 :: stt) (tSs X.K CT cl W0 ts)) :
    PS X (.Try sts [.ExceptHandler (some (.Name x np)) (some n) (b0 :: stt) pos'] [] [] pos) (tS X.K CT cl W (.tryA ss ks i ts)) :=
  PSimp (ps_try_own (tb := fun W => tSs X.K CT cl W ss) (ts := tSs X.K CT cl W0 ts) (Wout := W) hst hf hN hi hln hc tk hb hsu) fun D σ H ⟨m, G, h, ρ, R, s, q⟩ => by
    simp only [ex] at q
    refine ⟨m, G, h, ρ, R, s, q.seq (exs_gro hcl ss ρ h) fun f h1 m1 G1 H1 e1 e2 R1 le q1 => ?_⟩
    cases f with
    | nx ρ1 => exact q1.now R1
    | rt u => exact q1.now R1
    | bk ρ1 => exact q1.now R1
    | ct ρ1 => exact q1.now R1
    | xc y ρ1 =>
      intro σ' cls d s' xr
      obtain ⟨C, ct, rfl, hfs⟩ := id xr
      refine ⟨_, hex _ C ct, fun hy a na => ?_, fun hn => ?_⟩
      · have hy := of_decide_eq_true hy
        simp only [if_pos hy] at q1
        obtain ⟨R2, sg⟩ := R1.newT (u := EXO (.ref C) d a) na
        have R3 : HR X.K CT (mx m1 h1.length a) (upd G1 a (EXO (.ref C) d a)) (upd H1 a (EXO (.ref C) d a)) (h1 ++ [.exn y.cls y.fs]) := R2.newF ⟨C, d, ct, upd_same, hfs.mono mx_ex (Nat.le_succ _) sg⟩ rfl
        have s3 : SR X.K (mx m1 h1.length a) (h1 ++ [PO.exn y.cls y.fs]).length (upd G1 a (EXO (.ref C) d a)) (ρ1.set i (some (.ref h1.length))) (σ'.set i (some (.ref a))) := by
          refine (s'.mono mx_ex (by simp) sg).set ?_ i
          have z : Rel X.K (mx m1 h1.length a) (h1 ++ [PO.exn y.cls y.fs]).length (upd G1 a (EXO (.ref C) d a)) (.ref h1.length) (.ref (mx m1 h1.length a h1.length)) := .ref (by simp)
          rw [mx_new] at z
          exact z
        exact ⟨_, _, _, _, R3, s3, PostF.un (q1.later mx_ex (by simp) sg)⟩
      · have hn := of_decide_eq_false hn
        simp only [if_neg hn] at q1
        exact q1.now R1 σ' _ d s' xr
end
end Mi
set_option Elab.async false
set_option linter.all false
set_option maxRecDepth 100000
namespace Mi
open PySem PySem.Spec PyProof.Rows L2
def visB (sc : Scope) (x : Str) : Bool := match sc.names.lookup x with
  | some .local => true
  | some .cell => true
  | some .free => true
  | _ => false
theorem vis_of {sc : Scope} {x : Str} (h : visB sc x = true) : Vis sc x := by
  unfold visB at h
  split at h
  · rename_i e; exact .inl e
  · rename_i e; exact .inr (.inl e)
  · rename_i e; exact .inr (.inr e)
  · cases h
def locB (sc : Scope) (x : Str) : Bool := match sc.names.lookup x with
  | some .local => true
  | some .cell => true
  | _ => false
theorem loc_of {sc : Scope} {x : Str} (h : locB sc x = true) : Loc sc x := by
  unfold locB at h
  split at h
  · rename_i e; exact .inl e
  · rename_i e; exact .inr e
  · cases h
def fnB (X : Cx) (x : Str) : Bool := X.fn x || (match X.env.scope.names.lookup x with
  | some .local => true
  | _ => false)
theorem fn_of {X : Cx} {x : Str} (h : fnB X x = true) : X.fn x = true ∨ X.env.scope.names.lookup x = some .local := by
  unfold fnB at h
  rw [Bool.or_eq_true] at h
  rcases h with h | h
  · exact .inl h
  · split at h
    · rename_i e; exact .inr e
    · cases h
/-- the promise of a def whose body is d -/
def spB (K : PySem.W.Frag) (CT : Cts) (cl : Cl) (d : Fn) : Sp := fun vs H Q E => ∃ m G h pvs, HR K CT m G H h ∧ RelL K m h.length G pvs vs ∧ Post K CT (Rel K) (fun cls d _ H' => E cls d H') [] m G h.length Q (d.run cl pvs h)
theorem spB_len {K : PySem.W.Frag} {CT : Cts} {cl : Cl} {d : Fn} {vs : List V} {H : Hp} {Q : VK} {E : XK} (h : spB K CT cl d vs H Q E) : vs.length = d.np := by
  obtain ⟨m, G, h, pvs, R, rl, q⟩ := h
  rw [← rl.length]
  unfold Fn.run at q
  split at q
  · assumption
  · exact q.elim
theorem sr_start {K : PySem.W.Frag} {m : Nat → Addr} {N : Nat} {G : Hp} : ∀ {xs : List PV} {vs : List V}, RelL K m N G xs vs → ∀ n, SR K m N G (xs.map some ++ List.replicate n none) (vs.map some ++ List.replicate n none)
  | _, _, .nil, n => ⟨by simp, fun i x e => by
    simp only [List.map_nil, List.nil_append] at e
    rw [List.getElem?_replicate] at e
    split at e <;> cases e⟩
  | _, _, .cons (x := x) (v := v) (xs := xs) (vs := vs) a r, n => by
    obtain ⟨h1, h2⟩ := sr_start r n
    refine ⟨by simpa using h1, fun i y e => ?_⟩
    cases i with
    | zero =>
      have e : some (some x) = some (some y) := e
      injection e with e
      injection e with e
      subst e
      exact ⟨v, rfl, a⟩
    | succ i => exact h2 i y (by simpa using e)
section
variable {P : Program} {w : World} {K : PySem.W.Frag} {mg : Str → Option Value} {base : Heap} {CT : Cts} {cl : Cl}
theorem fnG_run {x qual : Str} {st : Stmt} {f : Addr} {fd : FuncData} {NN ps : List Str} {k : Nat} {d : Fn} (F : Fun K x qual st f fd) (S : FnScope NN ps (defScope st)) (hn : d.np = ps.length) (hl : d.nl = NN.length - ps.length) (hcl : GroC cl)
    (hb : ∀ (cdv : Value) (A : Around) (out : List PySem.Env) (s : Shared) (H : Hp) (E : XK) (W : WX), Room k (A.deeper (envOfC qual (defScope st) s.heap.objs.size f cdv)) → A.guards = some [] → Takes (cxOf (L2.CX P w) P w K mg base NN qual (defScope st) f cdv A out s H E) W →
      PassesOwn (model P w) (A.deeper (envOfC qual (defScope st) s.heap.objs.size f cdv)) (envOfC qual (defScope st) s.heap.objs.size f cdv) (cxOf (L2.CX P w) P w K mg base NN qual (defScope st) f cdv A out s H E).xe →
      PSs (cxOf (L2.CX P w) P w K mg base NN qual (defScope st) f cdv A out s H E) (defBody st) (tSs K CT cl W d.body)) : FnG P w K mg base (k + 1) f fd ps (spB K CT cl d) := by
  refine fnG_of F S (fun vs H Q E h => (spB_len h).trans hn) fun cdv A out s H vs Q E hr hg hsp => ?_
  refine ⟨_, hb cdv A out s H E (fun cls d _ H' => E cls d H') hr hg (takes_of rfl rfl rfl rfl) (passes_of rfl), ?_⟩
  have hlen := spB_len hsp
  obtain ⟨m, G, h, pvs, R, rl, q⟩ := hsp
  have e1 : pvs.length = d.np := by rw [rl.length]; exact hlen
  unfold Fn.run at q
  rw [if_pos e1] at q
  have e2 : NN.length - vs.length = d.nl := by rw [hlen, hn, hl]
  refine ⟨m, G, h, pvs.map some ++ List.replicate d.nl none, R, ?_, ?_⟩
  · unfold L2.start
    rw [e2]
    exact sr_start rl _
  · have hgro := exs_gro hcl d.body (pvs.map some ++ List.replicate d.nl none) h
    cases e : exs cl d.body (pvs.map some ++ List.replicate d.nl none) h with
    | ok fl h1 =>
      rw [e] at q
      intro m' G' H' x1 x2 R'
      cases fl with
      | nx ρ => exact fun σ _ => q m' G' H' .non x1 x2 R' .non
      | rt v => exact fun u r => q m' G' H' u x1 x2 R' r
      | bk ρ => exact q.elim
      | ct ρ => exact q.elim
      | xc y ρ => exact fun σ cls dd _ xr => q m' G' H' cls dd x1 x2 R' xr
    | exc y h1 =>
      rw [e] at q
      exact q.elim
    | bad =>
      rw [e] at q
      exact q.elim
end
end Mi
set_option Elab.async false
set_option linter.all false
set_option maxRecDepth 100000
namespace Mi
open PySem PySem.Spec PyProof.Rows L2
section
variable {P : Program} {w : World} {K : PySem.W.Frag} {mg : Str → Option Value} {base : Heap} {CT : Cts} {t : FN → Option Fn} {n k : Nat} {f : FN} {a : Addr} {fd : FuncData} {ps : List Str} {d : Fn}
theorem cal_succ (h : t f = some d) (F : FnG P w K mg base k a fd ps (spB K CT (callN t n) d)) (b : Binds K fd ps []) : Cal P w K mg base CT (callN t (n + 1)) k f a := by
  refine ⟨fd, ps, ?_, b⟩
  have e : spI K CT (callN t (n + 1)) f = spB K CT (callN t n) d := by
    have z : ∀ pvs g, callN t (n + 1) f pvs g = d.run (callN t n) pvs g := fun pvs g => by simp only [callN, h]
    funext vs H Q E
    unfold spI spB
    simp only [z]
  rw [e]
  exact F
theorem cal_zero (b : Binds K fd ps []) : Cal P w K mg base CT (callN t 0) k f a := by
  refine ⟨fd, ps, FnG.none fun vs H Q E z => ?_, b⟩
  obtain ⟨m, G, h, pvs, _, _, q⟩ := z
  exact q
theorem Cal.more {cl : Cl} {j : Nat} (F : Cal P w K mg base CT cl j f a) (h : j ≤ k) : Cal P w K mg base CT cl k f a := by
  obtain ⟨fd, ps, F, b⟩ := F.ex
  exact ⟨fd, ps, F.more h, b⟩
end
end Mi
set_option Elab.async false
set_option linter.all false
set_option maxRecDepth 100000
namespace Mi
open PySem PySem.Spec PyProof.Rows L2
abbrev SO (x : String) : Str := Str.ofString x
structure XSP where
  bs : List (PySem.W.Frag → Bool)
  ps : List He.DefD := []
def pgA (K : PySem.W.Frag) (c m : Str) : Addr := match PySem.W.recIn K (He.ma K (He.ga K c) m) "property" with
  | some (.ref g :: _) => g
  | _ => 0
def pAd (K : PySem.W.Frag) (p : Str × Option Str) : Addr := match p.2 with
  | some m => pgA K p.1 m
  | none => 0
def fnWP (K : PySem.W.Frag) (p : Str × Option Str) : He.FnW := match K.lookup (pAd K p) with
  | some ⟨_, _, .func fd, _⟩ => some (fd.name, fd.qualname, fd.params, fd.body, fd.scope, fd.globals, fd.closure, fd.builtins)
  | _ => none
def okG2 (K : PySem.W.Frag) (d : He.DefD) : Bool := PySem.W.keepIn K (.ref (pAd K d.at_)) && (match K.lookup (pAd K d.at_) with
  | some ⟨_, _, .func fd, _⟩ => PySem.W.codeIn K fd.code d.qual && (He.dflB K fd.defaults (d.dvs K) && He.kwdB K fd.kwdefaults (d.kws K))
  | _ => false)
theorem getter {K : PySem.W.Frag} {d : He.DefD} (e : fnWP K d.at_ = d.val) (c : okG2 K d = true) : ∃ fd, FunD K d.name d.qual d.params d.body d.scope (d.dvs K) (d.kws K) (pAd K d.at_) fd := by
  unfold okG2 at c
  rw [Bool.and_eq_true] at c
  obtain ⟨kp, c2⟩ := c
  unfold fnWP at e
  cases q : K.lookup (pAd K d.at_) with
  | none =>
    rw [q] at c2
    cases c2
  | some o =>
    obtain ⟨oc, od, dt, osl⟩ := o
    rw [q] at c2 e
    cases dt with
    | func fd =>
      obtain ⟨n1, n2, n3, n4, n5, n6, n7, n8, n9, n10, n11, n12, n13, n14, n15⟩ := fd
      have z : (some (n1, n2, n3, n4, n5, n6, n7, n15) : He.FnW) = some (d.name, d.qual, d.params, .stmts d.body, d.scope, mainGlobals, [], builtinsNs) := e
      simp only [Option.some.injEq, Prod.mk.injEq] at z
      obtain ⟨h1, h2, h3, h4, h5, h6, h7, h8⟩ := z
      subst h1 h2 h3 h4 h5 h6 h7 h8
      have y : (PySem.W.codeIn K n13 d.qual && (He.dflB K n8 (d.dvs K) && He.kwdB K n9 (d.kws K))) = true := c2
      simp only [Bool.and_eq_true] at y
      obtain ⟨k1, k3, k4⟩ := y
      exact ⟨_, ⟨oc, od, n8, n9, n10, n11, n12, n13, n14, osl, rfl, q, k1, He.dflB_ok k3, He.kwdB_ok k4⟩, kp⟩
    | _ => cases c2
abbrev Obs : Type := (Bool × List He.FnW) × He.AlT
def obsM (xs : XSP) (fa : List He.Fa) (fn : List He.DefD) (ts : List He.Tab) (K : PySem.W.Frag) : Obs := (((xs.bs.all fun f => f K) && xs.ps.all fun d => okG2 K d, xs.ps.map fun d => fnWP K d.at_), He.obsT fa fn ts K)
def valM (xs : XSP) (fn : List He.DefD) (ts : List He.Tab) (w : World) : Obs := ((true, xs.ps.map He.DefD.val), He.valT fn ts w)
def SaysM (xs : XSP) (fa : List He.Fa) (fn : List He.DefD) (ts : List He.Tab) (w : World) (K : PySem.W.Frag) : Prop := obsM xs fa fn ts K = valM xs fn ts w
section
variable {xs : XSP} {fa : List He.Fa} {fn : List He.DefD} {ts : List He.Tab} {w : World} {K : PySem.W.Frag}
theorem SaysM.kitT (c : SaysM xs fa fn ts w K) : He.SaysT fa fn ts w K := congrArg Prod.snd c
theorem SaysM.kit (c : SaysM xs fa fn ts w K) : He.SaysD fa fn K := c.kitT.d
theorem SaysM.tab (c : SaysM xs fa fn ts w K) (i : Nat) {t : He.Tab} (h : ts[i]? = some t) : ∃ es n, KDict K w (t.1 K) es n := c.kitT.tab i h
theorem SaysM.bools (c : SaysM xs fa fn ts w K) : (xs.bs.all fun f => f K) = true ∧ (xs.ps.all fun d => okG2 K d) = true := by
  have e := congrArg (fun z : Obs => z.1.1) c
  exact (Bool.and_eq_true _ _).mp e
theorem SaysM.ex (c : SaysM xs fa fn ts w K) (i : Nat) {f : PySem.W.Frag → Bool} (h : xs.bs[i]? = some f) : f K = true := List.all_eq_true.mp c.bools.1 f (List.mem_of_getElem? h)
theorem SaysM.prop (c : SaysM xs fa fn ts w K) (i : Nat) {d : He.DefD} (h : xs.ps[i]? = some d) : ∃ fd, FunD K d.name d.qual d.params d.body d.scope (d.dvs K) (d.kws K) (pAd K d.at_) fd := by
  have e : xs.ps.map (fun d => fnWP K d.at_) = xs.ps.map He.DefD.val := congrArg (fun z : Obs => z.1.2) c
  have e2 : (xs.ps.map fun d => fnWP K d.at_)[i]? = (xs.ps.map He.DefD.val)[i]? := by rw [e]
  rw [List.getElem?_map, List.getElem?_map, h] at e2
  exact getter (Option.some.inj e2) (List.all_eq_true.mp c.bools.2 d (List.mem_of_getElem? h))
theorem fun_of {x qual : Str} {st : Stmt} {f : Addr} {fd : FuncData} (F : FunD K x qual (defArgs st) (defBody st) (defScope st) [] [] f fd) : Fun K x qual st f fd := by
  obtain ⟨oc, od, dV, kV, doc, pm, an, cdv, ct, osl, e, lk, hcd, hD, _⟩ := F.ex
  rcases hD with ⟨_, rfl⟩ | ⟨z, _⟩
  · exact ⟨⟨oc, od, kV, doc, pm, an, cdv, ct, osl, e, e ▸ lk, hcd⟩, F.kp⟩
  · exact absurd rfl z
end
section
variable {X : Cx} {CT : Cts} {cl : Cl} {W : WX} {k : Nat} {pos : Pos}
theorem I_gintE {x : Str} {i : Int} (hg : Gl X x) (hm : ∃ t, X.mg x = some (.int i t)) (hd : (x == ("__debug__" : Str)) = false) : PE X (.Name x pos) (tE X.K CT cl W (.k (.int i))) := by
  obtain ⟨t, e⟩ := hm
  exact I_gint hg e ⟨t, rfl⟩ hd
theorem I_gstrE {x z : Str} {s : List Char} (e : z = S2 s) (hg : Gl X x) (hm : ∃ t, X.mg x = some (.str z t)) (hd : (x == ("__debug__" : Str)) = false) : PE X (.Name x pos) (tE X.K CT cl W (.k (.str s))) := by
  obtain ⟨t, q⟩ := hm
  exact I_gstr e hg q ⟨t, rfl⟩ hd
theorem I_ty {x : Str} {T : String} (hg : Gl X x) (hm : X.mg x = none) (hv : bootBuiltins x = some (.type T)) (hn : x ≠ "__name__") (hd : (x == ("__debug__" : Str)) = false) : PE X (.Name x pos) (tC (.ty T)) := pe_bltn hg hm hv (show L2.RelV (.ty T) (.type T) from rfl) hn hd
theorem u65 {A : Around} (r : Room k A) : A.units + 65 < cLine := by have := r.un; omega
theorem u1 {A : Around} (r : Room k A) : A.units + 1 < cLine := by have := r.un; omega
theorem takes0 : Takes X W0 := fun u s' ⟨_, _, _, _, _, _, _, _, _, _, _, _, _, _, _, _, z⟩ => z.elim
end
end Mi
set_option Elab.async false
set_option linter.all false
set_option maxRecDepth 100000
namespace Mi
open PySem PySem.Spec PyProof.Rows L2
section
variable {X : Cx} {CT : Cts} {cl : Cl} {W : WX} {k : Nat} {a : Addr} {e e1 e2 e3 : Expr} {es : List Expr} {c c1 c2 c3 : E} {cs : List E} {pos apos p : Pos}
/-- one turn of the outer part -/
abbrev lcS2 (cl : Cl) (t : T) (own : List Nat) (ts : List E) (t2 : T) (ik2 : IK) (its2 : List E) (own2 : List Nat) (ts2 : List E) (ce : E) (ρ : Mi.Env) : Nat → PV → PH → R (List PV) := fun n x h2 => match bindT h2 t x (wipeE ρ own) with
  | some ρ1 => (evc cl ts ρ1 h2).bind fun b h3 => if b then (itsE cl ik2 its2 ρ1 h3).bind fun i2 h4 => if n + i2.xs.length < szl then lcL i2.g (lcS cl t2 own2 ts2 ce ρ1) i2.xs h4 else .bad
    else .ok [] h3
  | none => .bad
theorem lcS2_gro {t t2 : T} {ow ow2 : List Nat} {tc tc2 its2 : List E} {ik2 : IK} {ce : E} {ρ : Mi.Env} (hcl : GroC cl) (n : Nat) (x : PV) (h : PH) : Gro h (lcS2 cl t ow tc t2 ik2 its2 ow2 tc2 ce ρ n x h) := by
  unfold lcS2
  split
  · exact (evc_gro hcl tc _ h).bind fun b h3 _ => by
      split
      · exact (itsE_gro hcl).bind fun i2 h4 _ => by
          split
          · exact lcL_gro (fun x h => lcS_gro hcl x h) _ _
          · trivial
      · exact Gro.refl
  · trivial
end
end Mi
set_option Elab.async false
set_option linter.all false
set_option maxRecDepth 100000
namespace Mi
open PySem PySem.Spec PyProof.Rows L2
/-- a set just laid -/
abbrev set0 (w : World) : Obj := { cls := .type "set", dict := none, data := .set #[] 0 (.fresh 0 0 (!w.params.followText "set-order")) }
section
variable {P : Program} {w : World} {A : Around} {Er : Value → Shared → Prop} {z : Shared}
set_option maxHeartbeats 3200000 in
/-- set(xs), xs a list of ints: the set of these, known to be walkable -/
theorem make_set {src : Addr} {arr : Array Value} (nums : List Int) {Q : Value → Shared → Prop} (calm : A.handled = none) (isL : z.heap.IsList src arr) (allI : IntsAre arr.toList nums) (few : nums.length + 1 < scanBound)
    (k : ∀ (g : Heap) (t c : Nat), SetR w g z.heap.objs.size (fun j => decide (j ∈ nums)) c → c ≤ nums.length → (∀ b o, z.heap.get? b = some o → g.get? b = some o) → Q (.ref z.heap.objs.size) { z with heap := g, toks := t }) :
    wpAny (model P w) A (call (.type "set") [.ref src]) Q Er z := by
  have sz : arr.size = nums.length := by simpa using allI.length
  obtain ⟨c0, tl0, mro0⟩ := F.called_set.mro
  have made0 := F.called_set.made
  have sub0 := F.called_set.sub
  have notT := F.called_set.notType
  have canC := F.called_set.canCreate
  have tc1 := F.typeCall_set_1 (.ref src)
  refine wpAny_call (codeAny_of_tree ?_)
  show wpAny _ _ (callAny (.type "set") _) _ _ z
  refine wpAny_pure ⟨Code.quiet_builtin _ (by decide +kernel), codeAny_builtin F.entry_type_call ?_⟩
  rw [Around.under_plain (weight_type_call_type "set" [.ref src] []) rfl]
  repeat (any_goals (first | assumption | wp_step))
  refine codeAny_mono (code_set_led1 (.ref src) (E := Er) (Q₁ := fun u z1 => u = .ref z.heap.objs.size ∧ z1 = { z with heap := z.heap.push (set0 w) }) ⟨rfl, rfl⟩) fun res z1 hres => ?_
  match res, hres with
  | .error e, hres => exact hres
  | .ok .next, hres => exact False.elim hres
  | .ok .brk, hres => exact False.elim hres
  | .ok .cont, hres => exact False.elim hres
  | .ok (.ret u), ⟨e1, e2⟩ =>
    subst e1 e2
    have at0 : (z.heap.push (set0 w)).get? z.heap.objs.size = some (set0 w) := Heap.get?_push_size _ rfl
    have ty0 : Shared.TypeIs { z with heap := z.heap.push (set0 w) } (.ref z.heap.objs.size) "set" := ⟨set0 w, at0, rfl⟩
    have ini1 := F.called_set.init.lookup
    have ini2 := F.called_set.init.bind (.ref z.heap.objs.size)
    repeat (any_goals (first | assumption | wp_step))
    refine codeAny_mono (codeAny_call_builtin (R := wants (fun r z2 => r = .none ∧ ∃ g t c, z2 = { z with heap := g, toks := t } ∧ SetR w g z.heap.objs.size (fun j => decide (j ∈ nums)) c ∧ c ≤ nums.length ∧ ∀ b o, z.heap.get? b = some o → g.get? b = some o) Er)
      F.called_set.init.plain F.entry_set_init (check_set_init_1 ty0 ?_)) fun res z2 hres => ?_
    · obtain ⟨⟨c1, d1, dt1, sl1⟩, lo, lc, nl, ld⟩ := isL
      simp only at lc ld
      subst lc ld
      have lo1 : (z.heap.push (set0 w)).get? src = some { cls := .type "list", dict := d1, data := .seq arr nl, slots := sl1 } := Heap.get?_push_of_some _ lo
      have sb1 := F.sub_list_set
      have sb2 := F.sub_list_frozenset
      have nd1 : (Value.type "list" == Value.type "dict") = false := by decide
      have isL1 : (z.heap.push (set0 w)).IsList src arr := ⟨_, lo1, rfl, nl, rfl⟩
      have lt1 := Heap.lt_size lo
      have psz : (z.heap.push (set0 w)).objs.size = z.heap.objs.size + 1 := by rw [Heap.size_push]
      unfold Builtin.«set.__init__» noKeywords Builtin.Frozenset.updateFrom
      generalize hit : pyIter = it0
      wp_walk
      subst hit
      refine wpAny_pyIter_list isL1 (wpAny_bind (wpAny_runValue ?_))
      have calm3 : A.in1.in1.in1.handled = none := by simp [calm]
      have away : z.heap.objs.size ∉ [(z.heap.push (set0 w)).objs.size, src] := fun hm => by
        rcases List.mem_cons.mp hm with e | hm
        · rw [psz] at e
          exact Nat.ne_of_lt (Nat.lt_succ_self _) e
        · exact Nat.ne_of_gt lt1 (List.mem_singleton.mp hm)
      refine set_update_ints ((Walks.list calm3 _ src (Nat.ne_of_lt (by rw [psz]; exact Nat.lt_succ_of_lt lt1)) arr).toS) z.heap.objs.size away nums sz few (fun i v hv => ?vals)
        (arr.size - 0) 0 _ (by omega) (Nat.zero_le _) ⟨⟨_, Heap.get?_push_size _ rfl, rfl, rfl⟩, isL1.push _⟩ ⟨0, Nat.le_refl _, setR_new_at (Heap.get?_push_of_some _ at0)⟩ ?fin
      case vals =>
        have hi : i < nums.length := by rw [← sz]; exact (Array.getElem?_eq_some_iff.mp hv).1
        obtain ⟨t, e⟩ := PyProof.Rows.IntsAre.int_at allI i v (by rw [Array.getElem?_toList]; exact hv)
        exact ⟨nums[i], t, List.getElem?_eq_getElem hi, by rw [e, List.getD_eq_getElem?_getD, List.getElem?_eq_getElem hi]; rfl⟩
      case fin =>
        rintro ⟨g, gs, dr, tk, os⟩ c mv le R
        obtain rfl : gs = z.gens := mv.gens
        obtain rfl : dr = z.drawn := mv.drawn
        obtain rfl : os = z.os := mv.os
        show wpAny _ _ (pure ()) _ _ _
        refine wpAny_pure ?_
        show wpAny _ _ (ret Value.none) _ _ _
        refine wpAny_pure ⟨rfl, g, tk, c, rfl, R, by rw [← sz]; exact le, fun b o e => ?_⟩
        have lb := Heap.lt_size e
        refine mv.heap b o (fun hm => ?_) (Heap.get?_push_of_some _ (Heap.get?_push_of_some _ e))
        rcases List.mem_cons.mp hm with e | hm
        · exact Nat.ne_of_lt lb e
        · have e := List.mem_singleton.mp hm
          rw [e, psz] at lb
          exact Nat.lt_irrefl _ (Nat.lt_of_succ_lt lb)
    · match res, hres with
      | .error e, hres => exact hres
      | .ok .next, hres => exact False.elim hres
      | .ok .brk, hres => exact False.elim hres
      | .ok .cont, hres => exact False.elim hres
      | .ok (.ret r), ⟨e1, g, t, c, e2, R, le, kp⟩ =>
        subst e1 e2
        repeat (any_goals (first | assumption | wp_step))
        exact k g t c R le kp
end
end Mi
set_option Elab.async false
set_option linter.all false
set_option maxRecDepth 100000
namespace Mi
open PySem PySem.Spec PyProof.Rows L2 PySem.Froz
def Alive (w : World) (t : SetTable) : Prop := Ris t.place.toList ∧ (w.params.followText "set-order" = true ∨ t.led = true)
theorem alive_tail {w : World} {ep : Nat} {es : Array (Int × Value)} {t : SetTable} {b : Bool} (h : Alive w t) : Alive w (tailTx ep es t b).2.2 := by
  unfold tailTx
  split
  · exact ⟨relayAll_ris t es _, h.2.imp id fun z => by rw [show (relayAll t es (SetTable.grown es.size)).2.1.led = t.led from relayAll_led t es _]; exact z⟩
  · exact h
theorem alive_add {w : World} {k : Int} {v : Value} {D : SD} (h : Alive w D.2.2) : Alive w (addTx k v D).2.2 := by
  have h1 : Alive w (layNew D.2.2 D.1 k v).2.1 := ⟨layNew_ris _ _ _ _ h.1, h.2.imp id fun z => by rw [layNew_led]; exact z⟩
  unfold addTx
  refine alive_tail ?_
  split
  · exact h1
  · exact h1
/-- the set of texts at a, its members l -/
def SetT (P : Program) (w : World) (h : Heap) (a : Addr) (l : List Str) : Prop := ∃ D : SD, h.get? a = some (sObj "set" D) ∧ TxOk P w D l ∧ Alive w D.2.2
theorem SetT.at {P : Program} {w : World} {h h1 : Heap} {a : Addr} {l : List Str} (R : SetT P w h a l) (k : ∀ o, h.get? a = some o → h1.get? a = some o) : SetT P w h1 a l := by
  obtain ⟨D, e, r⟩ := R
  exact ⟨D, k _ e, r⟩
section
variable {P : Program} {w : World} {A : Around} {Er : Value → Shared → Prop} {s : Shared}
/-- a text that is in already -/
theorem add_there {a : Addr} {D : SD} {l : List Str} {k : Str} {u : Tok} {Q : Bool → Shared → Prop} (ho : s.heap.get? a = some (sObj "set" D)) (F : TxOk P w D l) (hk : k ∈ l) (hb : l.length < scanBound) (q : Q false s) : wpAny (model P w) A (setAddHashed a (.str k u) (hashStr w k)) Q Er s := by
  obtain ⟨es, ep, t⟩ := D
  have dat : (sObj "set" (es, ep, t)).data = .set es ep t := rfl
  have els : ElemsOf (strKind P w) es.toList := F.el
  have few : es.size < scanBound := by rw [show es.size = l.length from F.sz]; exact hb
  have key : (strKind P w).is k (.str k u) = true := is_str k u
  unfold setAddHashed setAddHashedIn
  refine wpAny_holding (wpAny_bind (wpAny_setState_of ho dat F.fit ?_))
  dsimp only
  rw [byScan_of rfl few els]
  simp only [↓reduceIte]
  unfold setAddByScan
  refine wpAny_bind (wpAny_bind (wpAny_rule (wpAny_bind (wpAny_setScan_of key ho dat F.fit els ?_))))
  cases ef : List.findIdx? (fun e => (strKind P w).is k e.2) es.toList with
  | some j =>
    dsimp only
    exact wpAny_pure (wpAny_pure q)
  | none =>
    obtain ⟨e, he, z⟩ := (F.mem k).mp hk
    have c := List.findIdx?_eq_none_iff.mp ef e he
    rw [z] at c
    cases c
/-- one more text -/
def insS (k : Str) (l : List Str) : List Str := if k ∈ l then l else k :: l
theorem add_one {a : Addr} {l : List Str} {k : Str} {u : Tok} {Q : Bool → Shared → Prop} (R : SetT P w s.heap a l) (hb : l.length + 1 < scanBound)
    (q : ∀ b g, Heap.SameBut a s.heap g → SetT P w g a (insS k l) → Q b { s with heap := g }) : wpAny (model P w) A (setAddHashed a (.str k u) (hashStr w k)) Q Er s := by
  obtain ⟨D, ho, F, al⟩ := R
  unfold insS at q
  by_cases hk : k ∈ l
  · simp only [if_pos hk] at q
    exact add_there ho F hk (by omega) (q false s.heap (Heap.SameBut.refl a s.heap) ⟨D, ho, F, al⟩)
  · simp only [if_neg hk] at q
    exact add_x ho F hk hb (q true _ (Heap.SameBut.update s.heap a _) ⟨_, get_upd _ ho rfl, add_ok u F, alive_add al⟩)
/-- the members behind so many signs -/
def signs (xs : List Nat) : List Str := xs.foldl (fun l c => insS (sing c) l) []
theorem insS_len {k : Str} {l : List Str} : (insS k l).length ≤ l.length + 1 := by
  unfold insS
  split <;> simp
theorem signs_snoc {xs : List Nat} {c : Nat} : signs (xs ++ [c]) = insS (sing c) (signs xs) := by simp [signs]
theorem signs_len {xs : List Nat} : (signs xs).length ≤ xs.length := by
  have : ∀ (xs : List Nat) (l : List Str), (xs.foldl (fun l c => insS (sing c) l) l).length ≤ l.length + xs.length := by
    intro xs
    induction xs with
    | nil => intro l; simp
    | cons c r ih =>
      intro l
      have h1 := ih (insS (sing c) l)
      have h2 := insS_len (k := sing c) (l := l)
      simp only [List.foldl_cons, List.length_cons]
      omega
  have h := this xs []
  simp only [List.length_nil, Nat.zero_add] at h
  exact h
/-- set.update's loop over a text's signs -/
theorem update_signs {I : Addr} {fp wr : List Addr} {G : Array GenState → Array GenState → Prop} {St : Nat → Shared → Prop} {x : Str} {R : Result → Shared → Prop}
    (W : WalksS P w A.in1 I fp wr G x.cps.size (SignAt x) St) (S : Addr) (away : S ∉ fp) (few : x.cps.size + 1 < scanBound) :
    ∀ (m i : Nat) (z : Shared), i + m = x.cps.size → St i z → SetT P w z.heap S (signs (x.cps.toList.take i)) →
      (∀ y, Moved (S :: wr) G z y → SetT P w y.heap S (signs x.cps.toList) → R (.ok (.ret .none)) y) →
      codeAny (model P w) A (.builtin "set.update.loop" ⟨[.ref S, .ref I], []⟩) R z := by
  have nw : S ∉ wr := fun h => away (W.sub _ h)
  have sub1 : ∀ b ∈ wr, b ∈ S :: wr := fun b hb => List.mem_cons_of_mem _ hb
  intro m
  induction m with
  | zero =>
    intro i z hi st hS k
    obtain rfl : i = x.cps.size := by omega
    refine codeAny_builtin F.entry_set_update_loop ?_
    rw [Around.under_plainId F.plain_set_update_loop _]
    show wpAny _ A.in1 (pyNext (.ref I) >>= _) _ _ z
    refine wpAny_bind (W.done z _ _ st fun y mv => ?_)
    show wpAny _ A.in1 (ret Value.none) _ _ y
    rw [List.take_of_length_le (by simp)] at hS
    exact wpAny_pure (k y (mv.mono sub1) (hS.at fun o e => mv.heap S o nw e))
  | succ m ih =>
    intro i z hi st hS k
    refine codeAny_builtin F.entry_set_update_loop ?_
    rw [Around.under_plainId F.plain_set_update_loop _]
    show wpAny _ A.in1 (pyNext (.ref I) >>= _) _ _ z
    refine wpAny_bind (W.item i z _ _ (by omega) st fun v y hv st1 mv => ?_)
    obtain ⟨c, u, hc, rfl⟩ := hv
    have hS1 : SetT P w y.heap S (signs (x.cps.toList.take i)) := hS.at fun o e => mv.heap S o nw e
    show wpAny _ A.in1 (holding [Value.str (sing c) u] (setAdd S (.str (sing c) u)) >>= _) _ _ y
    refine wpAny_bind (wpAny_holding ?_)
    unfold setAdd
    refine wpAny_holding (wpAny_bind ((strKind P w).pyHash (k := sing c) (is_str _ _) ?_))
    have le : (signs (x.cps.toList.take i)).length ≤ i := Nat.le_trans signs_len (by simp; omega)
    refine add_one (s := { y with toks := y.toks + 1 }) hS1 (by omega) fun b g sb hS2 => ?_
    have hS3 : SetT P w g S (signs (x.cps.toList.take (i + 1))) := by
      rw [List.take_add_one, show x.cps.toList[i]? = some c by rw [Array.getElem?_toList]; exact hc]
      show SetT P w g S (signs (x.cps.toList.take i ++ [c]))
      rw [signs_snoc]
      exact hS2
    refine wpAny_pure ⟨plainId_quiet F.plain_set_update_loop _, ih (i + 1) _ (by omega) (W.frame _ y _ _ st1 (Nat.le_succ _) fun b hb o e => ?_) hS3 fun y2 mv2 hS4 => ?_⟩
    · rw [sb.2 b (fun h : b = S => away (by rw [← h]; exact hb))]
      exact e
    · refine k y2 (Moved.trans W.gtrans ((mv.mono sub1).then_heap (Nat.le_succ _) fun b o hb e => ?_) mv2) hS4
      rw [sb.2 b (fun h : b = S => hb (by rw [h]; exact List.mem_cons_self))]
      exact e
/-- a new set of texts -/
theorem setT_new {h : Heap} {a : Addr} (ho : h.get? a = some { cls := .type "set", dict := none, data := .set #[] 0 (.fresh 0 0 (!w.params.followText "set-order")) }) : SetT P w h a [] :=
  ⟨(#[], 0, _), ho, TxOk.nil (by rfl), List.Pairwise.nil, by
    show _ ∨ (!w.params.followText "set-order") = true
    cases w.params.followText "set-order"
    · exact .inr rfl
    · exact .inl rfl⟩
set_option maxHeartbeats 3200000 in
/-- set(x), x a text -/
theorem make_signs {x : Str} {u : Tok} {Q : Value → Shared → Prop} (calm : A.handled = none) (few : x.cps.size + 1 < scanBound)
    (k : ∀ (g : Heap) (t : Nat), SetT P w g s.heap.objs.size (signs x.cps.toList) → (∀ b o, s.heap.get? b = some o → g.get? b = some o) → Q (.ref s.heap.objs.size) { s with heap := g, toks := t }) :
    wpAny (model P w) A (call (.type "set") [.str x u]) Q Er s := by
  obtain ⟨c0, tl0, mro0⟩ := F.called_set.mro
  have made0 := F.called_set.made
  have sub0 := F.called_set.sub
  have notT := F.called_set.notType
  have canC := F.called_set.canCreate
  have tc1 := F.typeCall_set_1 (.str x u)
  refine wpAny_call (codeAny_of_tree ?_)
  show wpAny _ _ (callAny (.type "set") _) _ _ s
  refine wpAny_pure ⟨Code.quiet_builtin _ (by decide +kernel), codeAny_builtin F.entry_type_call ?_⟩
  rw [Around.under_plain (weight_type_call_type "set" [.str x u] []) rfl]
  repeat (any_goals (first | assumption | wp_step))
  refine codeAny_mono (code_set_led1 (.str x u) (E := Er) (Q₁ := fun v z1 => v = .ref s.heap.objs.size ∧ z1 = { s with heap := s.heap.push (set0 w) }) ⟨rfl, rfl⟩) fun res z1 hres => ?_
  match res, hres with
  | .error e, hres => exact hres
  | .ok .next, hres => exact False.elim hres
  | .ok .brk, hres => exact False.elim hres
  | .ok .cont, hres => exact False.elim hres
  | .ok (.ret v), ⟨e1, e2⟩ =>
    subst e1 e2
    have at0 : (s.heap.push (set0 w)).get? s.heap.objs.size = some (set0 w) := Heap.get?_push_size _ rfl
    have ty0 : Shared.TypeIs { s with heap := s.heap.push (set0 w) } (.ref s.heap.objs.size) "set" := ⟨set0 w, at0, rfl⟩
    have ini1 := F.called_set.init.lookup
    have ini2 := F.called_set.init.bind (.ref s.heap.objs.size)
    repeat (any_goals (first | assumption | wp_step))
    refine codeAny_mono (codeAny_call_builtin (R := wants (fun r z2 => r = .none ∧ ∃ g t, z2 = { s with heap := g, toks := t } ∧ SetT P w g s.heap.objs.size (signs x.cps.toList) ∧ ∀ b o, s.heap.get? b = some o → g.get? b = some o) Er)
      F.called_set.init.plain F.entry_set_init (check_set_init_1 ty0 ?_)) fun res z2 hres => ?_
    · have sb1 := F.sub_str_set
      have sb2 := F.sub_str_frozenset
      have nd1 : (Value.type "str" == Value.type "dict") = false := by decide
      have psz : (s.heap.push (set0 w)).objs.size = s.heap.objs.size + 1 := by rw [Heap.size_push]
      unfold Builtin.«set.__init__» noKeywords Builtin.Frozenset.updateFrom
      generalize hit : pyIter = it0
      wp_walk
      subst hit
      refine wpAny_pyIter_str fun o St W st0 => wpAny_bind (wpAny_runValue ?_)
      have calm3 : A.in1.in1.in1.handled = none := by simp [calm]
      have away : s.heap.objs.size ∉ [(s.heap.push (set0 w)).objs.size] := fun hm => by
        have e := List.mem_singleton.mp hm
        rw [psz] at e
        exact Nat.ne_of_lt (Nat.lt_succ_self _) e
      refine update_signs (W _ calm3).toS s.heap.objs.size away few x.cps.size 0 _ (by omega) st0 (setT_new (Heap.get?_push_of_some _ at0)) ?fin
      rintro ⟨g, gs, dr, tk, os⟩ mv R
      obtain rfl : gs = s.gens := mv.gens
      obtain rfl : dr = s.drawn := mv.drawn
      obtain rfl : os = s.os := mv.os
      show wpAny _ _ (pure ()) _ _ _
      refine wpAny_pure ?_
      show wpAny _ _ (ret Value.none) _ _ _
      refine wpAny_pure ⟨rfl, g, tk, rfl, R, fun b o2 e => ?_⟩
      have lb := Heap.lt_size e
      refine mv.heap b o2 (fun hm => ?_) (Heap.get?_push_of_some _ (Heap.get?_push_of_some _ e))
      rcases List.mem_cons.mp hm with e | hm
      · exact Nat.ne_of_lt lb e
      · have e := List.mem_singleton.mp hm
        rw [e, psz] at lb
        exact Nat.lt_irrefl _ (Nat.lt_of_succ_lt lb)
    · match res, hres with
      | .error e, hres => exact hres
      | .ok .next, hres => exact False.elim hres
      | .ok .brk, hres => exact False.elim hres
      | .ok .cont, hres => exact False.elim hres
      | .ok (.ret r), ⟨e1, g, t, e2, R, kp⟩ =>
        subst e1 e2
        repeat (any_goals (first | assumption | wp_step))
        exact k g t R kp
end
end Mi
set_option Elab.async false
set_option linter.all false
set_option maxRecDepth 100000
namespace Mi
open PySem PySem.Spec PyProof.Rows L2 PySem.Froz
section
variable {P : Program} {w : World} {A : Around} {Er : Value → Shared → Prop} {s : Shared}
theorem strs_of {l : List Value} (h : ∀ v ∈ l, ∃ k tk, v = Value.str k tk) : StrsAre l (l.map strOf) := by
  induction l with
  | nil => exact .nil
  | cons v l ih =>
    obtain ⟨k, tk, rfl⟩ := h v List.mem_cons_self
    exact .cons k tk (ih fun u hu => h u (List.mem_cons_of_mem _ hu))
theorem is_inv {k : Str} {v : Value} (h : (strKind P w).is k v = true) : ∃ tk, v = .str k tk := by
  have z : Value.isStrOf k v = true := h
  cases v <;> simp [Value.isStrOf] at z
  subst z
  exact ⟨_, rfl⟩
theorem sorted_signs {a : Addr} {l : List Str} {Q : Value → Shared → Prop} (R : SetT P w s.heap a l) (calm : A.handled = none) (few : l.length < 64)
    (k : ∀ s1 p (out : Array Value) (c : Nat) (ys : List Str), (∀ b o, s.heap.get? b = some o → s1.heap.get? b = some o) → s1.gens = s.gens → s1.os = s.os → s.heap.objs.size ≤ p →
      s1.heap.get? p = some (seqObj "list" out c) → StrsAre out.toList ys → sortedS ys = true → ys.length = l.length → (∀ y, y ∈ ys ↔ y ∈ l) → Q (.ref p) s1) :
    wpAny (model P w) A (call (.builtin "sorted") [.ref a]) Q Er s := by
  obtain ⟨⟨es, ep, t⟩, ho, T, al⟩ := R
  have hn : es.size = l.length := T.sz
  have el : ElemsOf (strKind P w) es.toList := T.el
  have hm : ∀ k : Str, k ∈ l ↔ ∃ e ∈ es.toList, (strKind P w).is k e.2 = true := T.mem
  refine Calls.call_function_entry kind_sorted plain_sorted entry_sorted (args_sorted1 _) ?_
  unfold Builtin.«sorted»
  refine wpAny_bind (m := checkCount "sorted" 1 1 _) (wpAny_pure ?_)
  refine wpAny_bind (collect_set (A := A.in1) calm ⟨_, ho, rfl, rfl⟩ T.fit (by show es.size < scanBound; rw [hn]; unfold scanBound; omega) al.1 al.2 fun s1 vs k1 hz g1 o1 pm => ?_)
  have hvl : vs.length = l.length := by rw [pm.length_eq, List.length_map, Array.length_toList]; exact hn
  have sta : StrsAre vs (vs.map strOf) := strs_of fun v hv => by
    obtain ⟨e, he, q⟩ := List.mem_map.mp (pm.mem_iff.mp hv)
    obtain ⟨⟨k, z, _⟩, _⟩ := el e he
    obtain ⟨tk, z⟩ := is_inv z
    exact ⟨k, tk, by rw [← q]; exact z⟩
  have memv : ∀ y, y ∈ vs.map strOf ↔ y ∈ l := fun y => by
    rw [hm y]
    constructor
    · intro hy
      obtain ⟨v, hv, q⟩ := List.mem_map.mp hy
      obtain ⟨e, he, q2⟩ := List.mem_map.mp (pm.mem_iff.mp hv)
      obtain ⟨⟨k, z, _⟩, _⟩ := el e he
      obtain ⟨tk, z2⟩ := is_inv z
      rw [← q2, z2] at q
      obtain rfl : k = y := q
      exact ⟨e, he, z⟩
    · rintro ⟨e, he, z⟩
      obtain ⟨tk, z2⟩ := is_inv z
      exact List.mem_map.mpr ⟨e.2, pm.mem_iff.mpr (List.mem_map.mpr ⟨e, he, rfl⟩), by rw [z2]; rfl⟩
  refine wpAny_bind (wpAny_newList ?_ (by rw [hvl, sizeLine_eq]; omega))
  have hoL : (s1.heap.push (seqObj "list" vs.toArray 0)).get? s1.heap.objs.size = some (seqObj "list" vs.toArray 0) := Heap.get?_push_size _ rfl
  refine wpAny_bind (wpAny_holding (wpAny_call_entry slot_list_sort ⟨_, hoL, rfl⟩ entry_list_sort (list_sort_treeK strKind_oneLt hoL sta.keysOf (fun v₁ v₂ rest e => keyKind_strs (by rw [← e]; exact sta)) (by rw [hvl]; exact few) fun st a1 a2 => ⟨_, rfl, ?_⟩) (args_list_sort _)))
  obtain ⟨ys, b1, b2, b3⟩ := sorted_out_str sta a1 a2
  obtain ⟨c, hc⟩ := sortedHeap_at (vs := vs) (out := (arrOf st).map (·.2)) hoL
  refine wpAny_pure ⟨_, rfl, k _ s1.heap.objs.size _ c ys (fun b o2 e => ?_) g1 o1 hz hc b1 b3 ?_ fun y => (b2.mem_iff).trans (memv y)⟩
  · have q := k1 b o2 e
    have hlt := Heap.lt_size q
    show (sortedHeap (s1.heap.push (seqObj "list" vs.toArray 0)) s1.heap.objs.size vs _).get? b = some o2
    rw [sortedHeap_old (Nat.ne_of_lt hlt) (by rw [size_push']; exact Nat.lt_succ_of_lt hlt)]
    exact Heap.get?_push_of_some _ q
  · rw [b2.length_eq, List.length_map, hvl]
end
end Mi
set_option Elab.async false
set_option linter.all false
set_option maxRecDepth 100000
namespace Mi
open PySem PySem.Spec PyProof.Rows L2
theorem insU_mem (x : Int) : ∀ (l : List Int) (k : Int), k ∈ insU x l ↔ k = x ∨ k ∈ l
  | [], k => by simp [insU]
  | y :: r, k => by
    unfold insU
    split
    · simp
    · split
      · rename_i h1 h2
        subst h2
        simp
      · simp only [List.mem_cons, insU_mem x r k]
        constructor
        · rintro (h | h | h)
          · exact .inr (.inl h)
          · exact .inl h
          · exact .inr (.inr h)
        · rintro (h | h | h)
          · exact .inr (.inl h)
          · exact .inl h
          · exact .inr (.inr h)
theorem insU_asc (x : Int) : ∀ l : List Int, l.Pairwise (· < ·) → (insU x l).Pairwise (· < ·)
  | [], _ => by simp [insU]
  | y :: r, h => by
    obtain ⟨h1, h2⟩ := List.pairwise_cons.mp h
    unfold insU
    split
    · rename_i hx
      refine List.pairwise_cons.mpr ⟨fun z hz => ?_, h⟩
      rcases List.mem_cons.mp hz with rfl | hz
      · exact hx
      · exact Int.lt_trans hx (h1 z hz)
    · split
      · exact h
      · rename_i hx hy
        refine List.pairwise_cons.mpr ⟨fun z hz => ?_, insU_asc x r h2⟩
        rcases (insU_mem x r z).mp hz with rfl | hz
        · omega
        · exact h1 z hz
theorem sortU_mem : ∀ (l : List Int) (k : Int), k ∈ sortU l ↔ k ∈ l
  | [], k => by simp [sortU]
  | x :: r, k => by rw [sortU, insU_mem, sortU_mem r k, List.mem_cons]
theorem sortU_asc : ∀ l : List Int, (sortU l).Pairwise (· < ·)
  | [] => by simp [sortU]
  | x :: r => insU_asc x (sortU r) (sortU_asc r)
theorem asc_mem : ∀ {a b : List Int}, a.Pairwise (· < ·) → b.Pairwise (· < ·) → (∀ k, k ∈ a ↔ k ∈ b) → a = b
  | [], [], _, _, _ => rfl
  | [], y :: t, _, _, h => by have := (h y).mpr List.mem_cons_self; cases this
  | x :: r, [], _, _, h => by have := (h x).mp List.mem_cons_self; cases this
  | x :: r, y :: t, ha, hb, h => by
    obtain ⟨a1, a2⟩ := List.pairwise_cons.mp ha
    obtain ⟨b1, b2⟩ := List.pairwise_cons.mp hb
    have e : x = y := by
      rcases List.mem_cons.mp ((h x).mp List.mem_cons_self) with e | hx
      · exact e
      · rcases List.mem_cons.mp ((h y).mpr List.mem_cons_self) with e | hy
        · exact e.symm
        · have := a1 y hy; have := b1 x hx; omega
    subst e
    refine congrArg (x :: ·) (asc_mem a2 b2 fun k => ⟨fun hk => ?_, fun hk => ?_⟩)
    · rcases List.mem_cons.mp ((h k).mp (List.mem_cons_of_mem _ hk)) with e | hk'
      · have := a1 k hk; omega
      · exact hk'
    · rcases List.mem_cons.mp ((h k).mpr (List.mem_cons_of_mem _ hk)) with e | hk'
      · have := b1 k hk; omega
      · exact hk'
section
variable {X : Cx} {CT : Cts} {cl : Cl} {W : WX} {e : Expr} {c : E} {pos p p2 q2 : Pos}
def rSetL (K : PySem.W.Frag) (w : World) : List V → Hp → VK → Prop := fun xs H Q => ∃ (a : Addr) (ns : List Int), xs = [V.ref a] ∧ SqL K H a (ns.map V.int) ∧ ns.length < 63 ∧ ∀ (b : Addr) (c : Nat), c ≤ ns.length → H b = none → Q (.ref b) (upd H b (SetO w b (fun j => decide (j ∈ ns)) c))
theorem cr_setL (hc : X.calm = true) : CallR X (.type "set") (rSetL X.K X.w) := by
  rintro pins s σ H xs us Q I r ⟨a, ns, rfl, hq, few, k⟩
  obtain ⟨v, rfl, rv⟩ := vals1 r
  cases rv
  obtain ⟨its, vs, pl, _⟩ := I.list hq
  refine make_set ns (I.ok.hd hc) pl.isList (by simpa using vs.ints) (by unfold scanBound; omega) fun g t c R le kp => ?_
  have fr : H s.heap.objs.size = none := I.hok.fresh (Nat.le_refl _)
  exact ⟨.ref s.heap.objs.size, _, I.laid (t' := t) kp (Nat.le_refl _) (setO_new R), rfl, k _ c le fr⟩
end
end Mi
set_option Elab.async false
set_option linter.all false
set_option maxRecDepth 100000
namespace Mi
open PySem PySem.Spec PyProof.Rows L2 PySem.Froz
theorem insC_mem (x : Char) : ∀ (l : List Char) (k : Char), k ∈ insC x l ↔ k = x ∨ k ∈ l
  | [], k => by simp [insC]
  | y :: r, k => by
    unfold insC
    split
    · simp
    · split
      · rename_i h1 h2
        obtain rfl : x = y := Char.ext (UInt32.toNat_inj.mp h2)
        simp
      · simp only [List.mem_cons, insC_mem x r k]
        constructor
        · rintro (h | h | h)
          · exact .inr (.inl h)
          · exact .inl h
          · exact .inr (.inr h)
        · rintro (h | h | h)
          · exact .inr (.inl h)
          · exact .inl h
          · exact .inr (.inr h)
theorem insC_asc (x : Char) : ∀ l : List Char, l.Pairwise (fun a b => a.toNat < b.toNat) → (insC x l).Pairwise (fun a b => a.toNat < b.toNat)
  | [], _ => by simp [insC]
  | y :: r, h => by
    obtain ⟨h1, h2⟩ := List.pairwise_cons.mp h
    unfold insC
    split
    · rename_i hx
      refine List.pairwise_cons.mpr ⟨fun z hz => ?_, h⟩
      rcases List.mem_cons.mp hz with rfl | hz
      · exact hx
      · exact Nat.lt_trans hx (h1 z hz)
    · split
      · exact h
      · rename_i hx hy
        refine List.pairwise_cons.mpr ⟨fun z hz => ?_, insC_asc x r h2⟩
        rcases (insC_mem x r z).mp hz with rfl | hz
        · omega
        · exact h1 z hz
theorem sortC_mem : ∀ (l : List Char) (k : Char), k ∈ sortC l ↔ k ∈ l
  | [], k => by simp [sortC]
  | x :: r, k => by rw [sortC, insC_mem, sortC_mem r k, List.mem_cons]
theorem sortC_asc : ∀ l : List Char, (sortC l).Pairwise (fun a b => a.toNat < b.toNat)
  | [] => by simp [sortC]
  | x :: r => insC_asc x (sortC r) (sortC_asc r)
theorem sing_inj {a b : Nat} (h : sing a = sing b) : a = b := by
  have z : [a] = [b] := congrArg (fun y : Str => y.cps.toList) h
  exact (List.cons.inj z).1
theorem insS_mem {k y : Str} {l : List Str} : y ∈ insS k l ↔ y = k ∨ y ∈ l := by
  unfold insS
  split
  · rename_i h
    constructor
    · exact .inr
    · rintro (rfl | q)
      · exact h
      · exact q
  · exact List.mem_cons
theorem insS_nodup {k : Str} {l : List Str} (h : l.Nodup) : (insS k l).Nodup := by
  unfold insS
  split
  · exact h
  · rename_i q
    exact List.nodup_cons.mpr ⟨q, h⟩
theorem signs_facts : ∀ (xs : List Nat) (l : List Str), l.Nodup → ((xs.foldl (fun l c => insS (sing c) l) l).Nodup ∧ ∀ y, y ∈ xs.foldl (fun l c => insS (sing c) l) l ↔ (∃ c ∈ xs, y = sing c) ∨ y ∈ l)
  | [], l, h => ⟨h, fun y => by simp⟩
  | x :: r, l, h => by
    obtain ⟨h1, h2⟩ := signs_facts r (insS (sing x) l) (insS_nodup h)
    refine ⟨h1, fun y => ?_⟩
    rw [List.foldl_cons, h2 y, insS_mem]
    constructor
    · rintro (⟨c, hc, rfl⟩ | rfl | q)
      · exact .inl ⟨c, List.mem_cons_of_mem _ hc, rfl⟩
      · exact .inl ⟨x, List.mem_cons_self, rfl⟩
      · exact .inr q
    · rintro (⟨c, hc, rfl⟩ | q)
      · rcases List.mem_cons.mp hc with rfl | hc
        · exact .inr (.inl rfl)
        · exact .inl ⟨c, hc, rfl⟩
      · exact .inr (.inr q)
theorem perm_of_sub {α : Type} [DecidableEq α] : ∀ {l ys : List α}, l.Nodup → (∀ y ∈ l, y ∈ ys) → ys.length = l.length → l.Perm ys
  | [], ys, _, _, e => by
    have z : ys = [] := List.eq_nil_of_length_eq_zero (by simpa using e)
    rw [z]
  | x :: r, ys, n, h, e => by
    obtain ⟨n1, n2⟩ := List.nodup_cons.mp n
    have hx := h x List.mem_cons_self
    have p := List.perm_cons_erase hx
    refine List.Perm.trans (List.Perm.cons x (perm_of_sub n2 (fun y hy => ?_) ?_)) p.symm
    · have ne : y ≠ x := fun z => n1 (z ▸ hy)
      exact (List.mem_erase_of_ne ne).mpr (h y (List.mem_cons_of_mem _ hy))
    · have := p.length_eq
      simp only [List.length_cons] at this e
      omega
theorem asc_of_sorted : ∀ (l : List Nat), sortedS (l.map sing) = true → l.Nodup → l.Pairwise (· < ·) := by
  have go : ∀ (l : List Nat) (p : Nat), risingS (sing p) (l.map sing) = true → (p :: l).Nodup → (p :: l).Pairwise (· < ·) := by
    intro l
    induction l with
    | nil => intro p _ _; simp
    | cons x r ih =>
      intro p h n
      have h : (!ltCps (sing x).cps.toList (sing p).cps.toList && risingS (sing x) (r.map sing)) = true := h
      rw [Bool.and_eq_true, Bool.not_eq_true'] at h
      obtain ⟨n1, n2⟩ := List.nodup_cons.mp n
      have q := ih x h.2 n2
      have lt : p < x := by
        have z := h.1
        rw [ltCps_eq, decide_eq_false_iff_not] at z
        have z : ¬ ([x] < [p]) := z
        rw [List.cons_lt_cons_iff] at z
        have ne : p ≠ x := fun e => n1 (e ▸ List.mem_cons_self)
        have : ¬ x < p := fun e => z (.inl e)
        omega
      refine List.pairwise_cons.mpr ⟨fun y hy => ?_, q⟩
      rcases List.mem_cons.mp hy with rfl | hy
      · exact lt
      · exact Nat.lt_trans lt ((List.pairwise_cons.mp q).1 y hy)
  intro l h n
  cases l with
  | nil => simp
  | cons p r => exact go r p h n
theorem asc_memN : ∀ {a b : List Nat}, a.Pairwise (· < ·) → b.Pairwise (· < ·) → (∀ k, k ∈ a ↔ k ∈ b) → a = b := by
  intro a b ha hb h
  have inj : ∀ x y : Nat, (x : Int) = y → x = y := fun x y e => Int.ofNat.inj e
  have q : a.map Int.ofNat = b.map Int.ofNat := asc_mem (by
      rw [List.pairwise_map]
      exact ha.imp fun h => Int.ofNat_lt.mpr h) (by
      rw [List.pairwise_map]
      exact hb.imp fun h => Int.ofNat_lt.mpr h) fun k => by
    simp only [List.mem_map, h]
  exact (List.map_inj_right fun x y e => Int.ofNat.inj e).mp q
/-- the texts that sorted gives are the signs in order -/
theorem sorted_is {s : List Char} {ys : List Str} (hs : sortedS ys = true) (hl : ys.length = (signs (s.map Char.toNat)).length) (hm : ∀ y, y ∈ ys ↔ y ∈ signs (s.map Char.toNat)) : ys = (sortC s).map fun c => S2 [c] := by
  obtain ⟨f1, f2⟩ := signs_facts (s.map Char.toNat) [] List.nodup_nil
  have nd : ys.Nodup := (perm_of_sub f1 (fun y hy => (hm y).mpr hy) hl).nodup_iff.mp f1
  obtain ⟨cs, rfl⟩ : ∃ cs : List Nat, ys = cs.map sing := by
    have : ∀ (ys : List Str), (∀ y ∈ ys, ∃ c, y = sing c) → ∃ cs : List Nat, ys = cs.map sing := by
      intro ys
      induction ys with
      | nil => exact fun _ => ⟨[], rfl⟩
      | cons y r ih =>
        intro h
        obtain ⟨c, rfl⟩ := h y List.mem_cons_self
        obtain ⟨cs, rfl⟩ := ih fun z hz => h z (List.mem_cons_of_mem _ hz)
        exact ⟨c :: cs, rfl⟩
    refine this ys fun y hy => ?_
    rcases (f2 y).mp ((hm y).mp hy) with ⟨c, _, e⟩ | z
    · exact ⟨c, e⟩
    · cases z
  have nd2 : cs.Nodup := by
    have : ∀ (cs : List Nat), (cs.map sing).Nodup → cs.Nodup := by
      intro cs
      induction cs with
      | nil => exact fun _ => List.nodup_nil
      | cons c r ih =>
        intro h
        obtain ⟨h1, h2⟩ := List.nodup_cons.mp h
        exact List.nodup_cons.mpr ⟨fun z => h1 (List.mem_map.mpr ⟨c, z, rfl⟩), ih h2⟩
    exact this cs nd
  have e : cs = (sortC s).map Char.toNat := by
    refine asc_memN (asc_of_sorted cs hs nd2) (by rw [List.pairwise_map]; exact sortC_asc s) fun k => ?_
    have a1 : k ∈ cs ↔ sing k ∈ cs.map sing := ⟨fun h => List.mem_map.mpr ⟨k, h, rfl⟩, fun h => by
      obtain ⟨j, hj, e⟩ := List.mem_map.mp h
      rw [← sing_inj e]
      exact hj⟩
    rw [a1, hm, show signs (s.map Char.toNat) = (s.map Char.toNat).foldl (fun l c => insS (sing c) l) [] from rfl, f2]
    simp only [List.mem_map, sortC_mem, List.not_mem_nil, or_false]
    constructor
    · rintro ⟨c, ⟨x, hx, rfl⟩, e⟩
      exact ⟨x, hx, (sing_inj e).symm⟩
    · rintro ⟨x, hx, rfl⟩
      exact ⟨_, ⟨x, hx, rfl⟩, rfl⟩
  rw [e, List.map_map]
  rfl
def SetTO (P : Program) (w : World) (a : Addr) (l : List Str) : HO := .ext fun h => SetT P w h a l
theorem setTO_new {P : Program} {w : World} {H : Hp} {h : Heap} {a : Addr} {l : List Str} (R : SetT P w h a l) : ObjOk P w H h a (SetTO P w a l) := by
  obtain ⟨D, e, r⟩ := id R
  exact ⟨R, ⟨_, e⟩, fun h1 h2 p k => SetT.at p k⟩
section
variable {X : Cx} {CT : Cts} {cl : Cl} {W : WX} {e : Expr} {c : E} {pos p p2 q2 : Pos}
def rSetX (P : Program) (w : World) : List V → Hp → VK → Prop := fun xs H Q => ∃ s : List Char, xs = [V.str (S2 s)] ∧ s.length < 63 ∧ ∀ b, H b = none → Q (.ref b) (upd H b (SetTO P w b (signs (s.map Char.toNat))))
theorem cr_setX (hc : X.calm = true) : CallR X (.type "set") (rSetX X.prog X.w) := by
  rintro pins z σ H xs us Q I r ⟨s, rfl, few, q⟩
  obtain ⟨v, rfl, rv⟩ := vals1 r
  obtain ⟨t, rfl⟩ := rv
  refine make_signs (I.ok.hd hc) (by show (s.map Char.toNat).toArray.size + 1 < scanBound; simp; unfold scanBound; omega) fun g tk R kp => ?_
  have fr : H z.heap.objs.size = none := I.hok.fresh (Nat.le_refl _)
  have R : SetT X.prog X.w g z.heap.objs.size (signs (s.map Char.toNat)) := by simpa using R
  exact ⟨.ref z.heap.objs.size, _, I.laid (t' := tk) kp (Nat.le_refl _) (setTO_new R), rfl, q _ fr⟩
def rSortedX (P : Program) (w : World) : List V → Hp → VK → Prop := fun xs H Q => ∃ (a : Addr) (l : List Str), xs = [V.ref a] ∧ H a = some (SetTO P w a l) ∧ l.length < 64 ∧
  ∀ (ys : List Str) (b : Addr), sortedS ys = true → ys.length = l.length → (∀ y, y ∈ ys ↔ y ∈ l) → H b = none → Q (.ref b) (upd H b (.lst (ys.map V.str)))
theorem cr_sortedX (hc : X.calm = true) : CallR X (.builtin "sorted") (rSortedX X.prog X.w) := by
  rintro pins z σ H xs us Q I r ⟨a, l, rfl, ha, few, q⟩
  obtain ⟨v, rfl, rv⟩ := vals1 r
  obtain rfl : v = Value.ref a := rv
  have R : SetT X.prog X.w z.heap a l := (I.hok a _ ha).1
  refine sorted_signs R (I.ok.hd hc) few fun z2 b out n ys kp hg ho hp ht hi hs hl hm => ?_
  have fr : H b = none := I.hok.fresh hp
  have size : (ys.map V.str).length ≤ sizeLine := by rw [List.length_map, hl, sizeLine_eq]; omega
  obtain ⟨h2, g2, d2, t2, o2⟩ := z2
  obtain rfl : o2 = z.os := ho
  have hg : g2 = z.gens := hg
  have kp : ∀ b o, z.heap.get? b = some o → h2.get? b = some o := kp
  have J : L2.Inv X pins σ (upd H b (.lst (ys.map V.str))) ⟨h2, g2, d2, t2, z.os⟩ := I.call (ch := []) (Un.laid kp hp fr) (I.hok.laid kp hp ⟨size, out.toList, n, vals_of_strs hi, ht⟩) (by rw [hg]; exact I.bare) (fun _ z => nomatch z)
  exact ⟨.ref b, _, J, rfl, q ys b hs hl hm fr⟩
theorem I_ssetX (hcl : GroC cl) (hc : X.calm = true) (hg : Gl X "sorted") (hm : X.mg "sorted" = none) (hg2 : Gl X "set") (hm2 : X.mg "set" = none) (h1 : PE X e (tE X.K CT cl W c)) (hs : starEach [e] X.env = (false, eval e X.env) :: starEach [] X.env)
    (hs2 : starEach [.Call (.Name "set" p2) [e] [] q2] X.env = (false, eval (.Call (.Name "set" p2) [e] [] q2) X.env) :: starEach [] X.env) (hpl : (backTo pos (starEach [] X.env)).any (·.1) = false) (hpl2 : (backTo q2 (starEach [] X.env)).any (·.1) = false)
    (b1 : bootBuiltins "sorted" = some (.builtin "sorted")) (b2 : bootBuiltins "set" = some (.type "set")) :
    PE X (.Call (.Name "sorted" p) [.Call (.Name "set" p2) [e] [] q2] [] pos) (tE X.K CT cl W (.blt "sorted set" [c])) :=
  PEimp (pe_callB (CallR.or (cr_sortedSet hc) (cr_sortedX hc)) hg hm b1 (pa_cons (pe_callTy (CallR.or (cr_setL hc) (cr_setX hc)) hg2 hm2 b2 (pa_cons h1 pa_nil hs) (by decide) (by decide) hs hpl2) pa_nil hs2) (by decide) (by decide) hs2 hpl) fun σ H Q ⟨m, G, h, ρ, R, s, q⟩ => by
    have z : ev cl (.blt "sorted set" [c]) ρ h = (ev cl c ρ h).bind fun x h1 => bltV "sorted set" [x] h1 := by
      simp only [ev, evs]
      cases ev cl c ρ h <;> rfl
    rw [z] at q
    refine tE_first hcl R s q fun x v h1 m1 G1 H1 _ _ _ R1 s1 r1 q1 => ?_
    have lay : ∀ (d : Addr) (u : HO) (d2 : Addr) (vs : List V) (ps : List PV), H1 d = none → upd H1 d u d2 = none → RelL X.K m1 h1.length G1 ps vs → Post X.K CT (Rel X.K) W σ m1 G1 h1.length Q (.ok (.ref h1.length) (h1 ++ [.lst ps])) → Q (.ref d2) (upd (upd H1 d u) d2 (.lst vs)) := by
      intro d u d2 vs ps hd hd2 rl q2
      have ne : d2 ≠ d := fun z => by rw [z, upd_same] at hd2; cases hd2
      have hd2' : H1 d2 = none := by rw [upd_ne ne] at hd2; exact hd2
      have R' := R1.new (p := d2) (o := .lst ps) (H' := upd (upd H1 d u) d2 (.lst vs)) hd2' (fun b hb => by
        rw [upd_ne fun z => hb (by rw [z]; exact hd2'), upd_ne fun z => hb (by rw [z]; exact hd)]) ⟨vs, by rw [upd_same], rl.mono mx_ex (Nat.le_succ _) Sub.refl⟩ rfl
      have rr : Rel X.K (mx m1 h1.length d2) (h1 ++ [PO.lst ps]).length G1 (.ref h1.length) (.ref (mx m1 h1.length d2 h1.length)) := .ref (by rw [List.length_append]; simp)
      rw [mx_new] at rr
      exact q2 _ G1 _ _ mx_ex Sub.refl R' rr
    by_cases hx : ∃ s, x = .str s
    · obtain ⟨s, rfl⟩ := hx
      simp only [bltV] at q1
      split at q1
      · rename_i few
        obtain rfl := r1.str_inv
        refine .inr ⟨s, rfl, few, fun d hd => .inr ⟨d, _, rfl, upd_same, Nat.lt_of_le_of_lt signs_len (by simp; omega), fun ys d2 hs2 hl2 hm2 hd2 => ?_⟩⟩
        rw [sorted_is hs2 hl2 hm2, List.map_map]
        exact lay d _ d2 _ _ hd hd2 (signs_rel (sortC s)) q1
      · exact q1.elim
    · have ex : bltV "sorted set" [x] h1 = match (lstOf x h1).bind intsOf with
        | some ns => if ns.length < 63 then .ok (.ref h1.length) (h1 ++ [.lst ((sortU ns).map .int)]) else .bad
        | none => .bad := by
        cases x with
        | str s => exact absurd ⟨s, rfl⟩ hx
        | _ =>
          simp only [bltV] <;> (cases (lstOf _ h1).bind intsOf <;> rfl)
      rw [ex] at q1
      split at q1
      · rename_i ns en
        split at q1
        · rename_i few
          obtain ⟨b, rfl, hb⟩ := ints_at R1 r1 en
          refine .inl ⟨b, ns, rfl, hb, few, fun d n le hd => .inl ⟨d, _, n, rfl, upd_same, by omega, fun ns' d2 ha hm hn hd2 => ?_⟩⟩
          have e1 : ns' = sortU ns := asc_mem ha (sortU_asc ns) fun k => by rw [hm k, sortU_mem, decide_eq_true_eq]
          rw [e1]
          exact lay d _ d2 _ _ hd hd2 (rel_ints _) q1
        · exact q1.elim
      · exact q1.elim
end
end Mi
set_option Elab.async false
set_option linter.all false
set_option maxRecDepth 100000
namespace Mi
open PySem PySem.Spec PyProof.Rows L2
theorem join_S2 : ∀ ts : List (List Char), Str.join ", " (ts.map S2) = S2 (joinC ts)
  | [] => rfl
  | [x] => rfl
  | x :: y :: r => by
    have e : Str.join ", " ((x :: y :: r).map S2) = S2 x ++ (", " : Str) ++ Str.join ", " ((y :: r).map S2) := rfl
    rw [e, join_S2 (y :: r), S2_ofString, S2_app, S2_app]
    rw [joinC]
    congr 1
    rw [List.append_assoc]
    rfl
/-- sys.modules is a dict -/
def SysD (K : PySem.W.Frag) : Prop := ∃ o, K.lookup sysModules = some o ∧ o.cls = .type "dict"
def sysB (K : PySem.W.Frag) : Bool := match K.lookup sysModules with
  | some o => decide (o.cls = .type "dict")
  | none => false
theorem sysB_ok {K : PySem.W.Frag} (h : sysB K = true) : SysD K := by
  unfold sysB at h
  split at h
  · rename_i o e
    exact ⟨o, e, of_decide_eq_true h⟩
  · cases h
theorem print_ascii : ∀ n : Nat, n < 127 → 32 ≤ n → Unicode.isPrintable n = true := by decide +kernel
theorem plain_char {c : Char} (h : plainC c = true) : Builtin.Str.reprChar 39 c.toNat = [c.toNat] := by
  unfold plainC at h
  simp only [Bool.and_eq_true, decide_eq_true_eq] at h
  obtain ⟨⟨⟨h1, h2⟩, h3⟩, h4⟩ := h
  have p := print_ascii _ h2 h1
  unfold Builtin.Str.reprChar
  rw [if_neg (by simp; omega), if_neg (by simp; omega), if_neg (by simp; omega), if_neg (by simp; omega), if_pos p]
theorem plain_fold : ∀ (l : List Char) (acc : Array Nat), l.all plainC = true → (l.map Char.toNat).foldl (fun out c => out ++ (Builtin.Str.reprChar 39 c).toArray) acc = acc ++ (l.map Char.toNat).toArray
  | [], acc, _ => by simp
  | c :: r, acc, h => by
    rw [List.all_cons, Bool.and_eq_true] at h
    rw [List.map_cons, List.foldl_cons, plain_char h.1, plain_fold r _ h.2]
    simp
theorem plain_text {s : List Char} (h : s.all plainC = true) : reprText (S2 s) = S2 ('\'' :: (s ++ ['\''])) := by
  have q : reprQuote (S2 s) = 39 := by
    unfold reprQuote
    have n : ((S2 s).cps.contains 39) = false := by
      rw [Bool.eq_false_iff]
      intro hc
      have hm : (39 : Nat) ∈ s.map Char.toNat := by simpa using hc
      obtain ⟨c, hc, e⟩ := List.mem_map.mp hm
      have hp := List.all_eq_true.mp h c hc
      unfold plainC at hp
      simp only [Bool.and_eq_true, decide_eq_true_eq] at hp
      exact hp.1.2 e
    rw [n]
    rfl
  unfold reprText
  rw [q, ← Array.foldl_toList]
  have e : (S2 s).cps.toList = s.map Char.toNat := by simp
  rw [e, plain_fold s _ h]
  unfold S2
  congr 1
  simp
theorem shw0_reads {K : PySem.W.Frag} {m : Nat → Addr} {N : Nat} {G : Hp} {hp : Heap} {x : PV} {v : V} {u : Value} {t : List Char} (r : Rel K m N G x v) (rv : L2.RelV v u) (e : shw0 x = some t) : ∃ d, Reads hp u d [] ∧ d.shown = S2 t ∧ d.showable = true ∧ d.depth = 0 := by
  unfold shw0 at e
  split at e
  · obtain rfl := r.non_inv
    cases (show u = Value.none from rv)
    injection e with e
    subst e
    exact ⟨_, .none, by simp only [PyData.shown]; rw [S2_ofString]; rfl, by simp [PyData.showable], by simp [PyData.depth]⟩
  · rename_i b
    obtain rfl := r.bl_inv
    cases (show u = Value.bool b from rv)
    injection e with e
    subst e
    exact ⟨_, .bool b, by simp only [PyData.shown]; rw [S2_ofString]; cases b <;> rfl, by simp [PyData.showable], by simp [PyData.depth]⟩
  · rename_i i
    obtain rfl := r.int_inv
    obtain ⟨tk, rfl⟩ := (show ∃ tk, u = Value.int i tk from rv)
    split at e
    · rename_i hl
      injection e with e
      subst e
      exact ⟨_, .int i tk, by simp only [PyData.shown]; rw [S2_ofString], by simp [PyData.showable, hl], by simp [PyData.depth]⟩
    · cases e
  · rename_i s
    obtain rfl := r.str_inv
    obtain ⟨tk, rfl⟩ := (show ∃ tk, u = Value.str (S2 s) tk from rv)
    split at e
    · rename_i hl
      injection e with e
      subst e
      exact ⟨_, .str (S2 s) tk, by simp only [PyData.shown]; exact plain_text hl, by simp [PyData.showable], by simp [PyData.depth]⟩
    · cases e
  · cases e
section
variable {X : Cx} {CT : Cts} {W : WX} {pins : List (Addr × Obj)} {σ : L2.St} {H : Hp} {s : Shared} {m : Nat → Addr} {G : Hp} {h : PH}
def Shd (X : Cx) (s : Shared) (u : Value) (t : List Char) (n : Nat) : Prop := ∃ d as, Reads s.heap u d as ∧ d.shown = S2 t ∧ d.showable = true ∧ d.depth ≤ n ∧ sysModules ∉ as
theorem shw_all {n : Nat} (ih : ∀ (x : PV) (v : V) (u : Value) (t : List Char), Rel X.K m h.length G x v → L2.RelV v u → shw h n x = some t → Shd X s u t n) :
    ∀ (xs : List PV) (vs : List V) (us : List Value) (ts : List (List Char)), RelL X.K m h.length G xs vs → Vals vs us → mapO (shw h n) xs = some ts → ∃ ds as, ReadsAll s.heap us ds as ∧ PyData.shownAll ds = ts.map S2 ∧ PyData.showableAll ds = true ∧ PyData.depthAll ds ≤ n ∧ sysModules ∉ as
  | [], _, _, ts, r, q, e => by
    cases r
    cases q
    have e' : ts = [] := by simpa [mapO] using e.symm
    subst e'
    exact ⟨[], [], .nil, by simp [PyData.shownAll], by simp [PyData.showableAll], by simp [PyData.depthAll], by simp⟩
  | x :: xs, _, _, ts, r, q, e => by
    cases r with
    | cons a r =>
      cases q with
      | cons b q =>
        rw [mapO] at e
        cases e1 : shw h n x with
        | none => rw [e1] at e; simp at e
        | some y =>
          rw [e1] at e
          cases e2 : mapO (shw h n) xs with
          | none => rw [e2] at e; simp at e
          | some ys =>
            rw [e2] at e
            have e' : ts = y :: ys := by simpa using e.symm
            subst e'
            obtain ⟨d, as, p1, p2, p3, p4, p5⟩ := ih _ _ _ _ a b e1
            obtain ⟨ds, bs, q1, q2, q3, q4, q5⟩ := shw_all ih xs _ _ ys r q e2
            refine ⟨d :: ds, as ++ bs, .cons p1 q1, by simp [PyData.shownAll, p2, q2], by simp [PyData.showableAll, p3, q3], ?_, by simp [p5, q5]⟩
            simp only [PyData.depthAll]
            omega
theorem shown_lst {ds : List PyData} {ts : List (List Char)} (e : PyData.shownAll ds = ts.map S2) : (PyData.list ds).shown = S2 (lstC ts) := by
  simp only [PyData.shown]
  rw [e, listText_eq_join, join_S2, S2_ofString, S2_ofString, S2_app, S2_app]
  rfl
theorem shown_tup {ds : List PyData} {ts : List (List Char)} (e : PyData.shownAll ds = ts.map S2) : (PyData.tuple ds).shown = S2 (tupC ts) := by
  simp only [PyData.shown]
  rw [e]
  unfold tupleText
  rw [join_S2, List.length_map, S2_ofString, S2_ofString, S2_app, S2_app]
  unfold tupC
  by_cases hl : ts.length = 1
  · rw [if_pos hl, if_pos (by simpa using hl)]
    rfl
  · rw [if_neg hl, if_neg (by simpa using hl)]
    rfl
theorem list_far (I : Inv X pins σ H s) (S : SysD X.K) {a : Addr} {o : Obj} (e : s.heap.get? a = some o) (hc : o.cls = .type "list") : a ≠ sysModules := by
  rintro rfl
  obtain ⟨o', h1, h2⟩ := S
  have q := I.kIn _ _ h1
  rw [q] at e
  injection e with e
  subst e
  rw [h2] at hc
  injection hc with hc
  revert hc
  decide
theorem shw_reads (I : Inv X pins σ H s) (S : SysD X.K) (R : HR X.K CT m G H h) : ∀ (n : Nat) (x : PV) (v : V) (u : Value) (t : List Char), Rel X.K m h.length G x v → L2.RelV v u → shw h n x = some t → Shd X s u t n
  | 0, x, v, u, t, r, rv, e => by
    obtain ⟨d, h1, h2, h3, h4⟩ := shw0_reads (hp := s.heap) r rv e
    exact ⟨d, [], h1, h2, h3, by omega, by simp⟩
  | n + 1, x, v, u, t, r, rv, e => by
    have lists : ∀ {a : Addr} {xs : List PV} {vs : List V}, v = .ref a → SqL X.K H a vs → RelL X.K m h.length G xs vs → (mapO (shw h n) xs).map lstC = some t → Shd X s u t (n + 1) := by
      intro a xs vs ev hs rl e
      subst ev
      cases (show u = Value.ref a from rv)
      cases e1 : mapO (shw h n) xs with
      | none => rw [e1] at e; simp at e
      | some ts =>
        rw [e1] at e
        have e' : t = lstC ts := by simpa using e.symm
        subst e'
        obtain ⟨its, rvs, ⟨o, k, ho, hc, _, hd⟩, _⟩ := I.list hs
        obtain ⟨ds, as, q1, q2, q3, q4, q5⟩ := shw_all (shw_reads I S R n) xs vs its ts rl rvs e1
        refine ⟨.list ds, a :: as, .list ho hc hd q1, shown_lst q2, by simpa [PyData.showable] using q3, ?_, ?_⟩
        · simp only [PyData.depth]; omega
        · simp only [List.mem_cons, not_or]
          exact ⟨(list_far I S ho hc).symm, q5⟩
    simp only [shw] at e
    split at e
    · rename_i xs
      obtain ⟨a, vs, rfl, hs, rl⟩ := r.tup_inv
      cases (show u = Value.ref a from rv)
      cases e1 : mapO (shw h n) xs with
      | none => rw [e1] at e; simp at e
      | some ts =>
        rw [e1] at e
        have e' : t = tupC ts := by simpa using e.symm
        subst e'
        obtain ⟨its, rvs, ⟨o, ho, hc, k, hd⟩, _⟩ := I.tuple (R.sub.sqT hs)
        obtain ⟨ds, as, q1, q2, q3, q4, q5⟩ := shw_all (shw_reads I S R n) xs vs its ts rl rvs e1
        exact ⟨.tuple ds, as, .tuple ho hc hd q1, shown_tup q2, by simpa [PyData.showable] using q3, by simp only [PyData.depth]; omega, q5⟩
    · obtain ⟨rfl, _⟩ := r.ref_inv
      split at e
      · rename_i xs ek
        obtain ⟨vs, hH, rl⟩ := R.lst ek
        exact lists rfl (.of hH) rl e
      · rename_i xs ek
        obtain ⟨vs, hH, rl⟩ := R.frz ek
        exact lists rfl hH rl e
      · rename_i ek
        obtain ⟨ks, hH, rd⟩ := R.dic ek
        cases (show u = Value.ref _ from rv)
        cases ks with
        | cons k ks => exact rd.elim
        | nil =>
          injection e with e
          subst e
          obtain ⟨_, hlo, vs, rk, o, es, ep, h1, h2, h3, h4⟩ := I.hok _ _ hH
          cases rk
          have ez : es.toList = [] := by
            have q := h4.2.1
            revert q
            generalize es.toList = l
            intro q
            cases l with
            | nil => rfl
            | cons e r => first | cases q | exact q.elim | (simp [Pairs] at q)
          have far := beq_eq_false_iff_ne.mp hlo
          have rd0 : Reads s.heap (.ref _) (.dict []) (_ :: ([] ++ [])) := .dict (as := []) (bs := []) h1 h2.1 h3 (by rw [ez]; exact .nil) (by rw [ez]; exact .nil)
          refine ⟨.dict [], _, rd0, ?_, by simp [PyData.showable, PyData.showableKv], by simp [PyData.depth, PyData.depthKv], ?_⟩
          · simp only [PyData.shown, PyData.shownKv]
            decide +kernel
          · simp only [List.append_nil, List.mem_cons, List.not_mem_nil, or_false]
            exact fun z => far z.symm
      · cases e
    · obtain ⟨d, h1, h2, h3, h4⟩ := shw0_reads (hp := s.heap) r rv e
      exact ⟨d, [], h1, h2, h3, by omega, by simp⟩
end
section
variable {X : Cx} {CT : Cts} {W : WX}
theorem call_repr_b (S : SysD X.K) (hu : X.A.units + 65 < cLine) (hg : X.A.guards = some []) : CallR X (.builtin "repr") (rBl X.K CT W "repr") := by
  rintro pins s σ H xs us Q I r ⟨m, G, h, pvs, σ0, R, rl, q⟩
  simp only [bltV] at q
  split at q
  · rename_i v
    obtain ⟨u, rfl, ru⟩ := rl.one_inv
    obtain ⟨w, rfl, rw'⟩ := vals1 r
    split at q
    · rename_i t et
      split at q
      · rename_i hl
        obtain ⟨pd, as, rd, e1, e2, hd, hn⟩ := shw_reads I S R 60 v u w t ru rw' et
        have fin : ∀ (x : Str) (tk : Tok), x = S2 t → L2.RelV (.str (S2 t)) (.str x tk) := fun x tk e => ⟨tk, by rw [e]⟩
        have qq : Q (.str (S2 t)) H := Post.now q R (.str t)
        have hz : pd.shown.length ≤ sizeLine := by rw [e1, S2_len, ← szl_eq]; exact hl
        cases rd with
        | list a1 a2 a3 a4 => exact repr_of_reads' (.list a1 a2 a3 a4) e2 (fun _ => hn) hg (by omega) (fun b o e => e) (fun h' tk0 tk kp => ⟨.str (S2 t), H, I.kept kp, fin _ _ e1, qq⟩) hz
        | tuple a1 a2 a3 a4 => exact repr_of_reads' (.tuple a1 a2 a3 a4) e2 (fun _ => hn) hg (by omega) (fun b o e => e) (fun h' tk0 tk kp => ⟨.str (S2 t), H, I.kept kp, fin _ _ e1, qq⟩) hz
        | dict a1 a2 a3 a4 a5 => exact repr_of_reads' (.dict a1 a2 a3 a4 a5) e2 (fun _ => hn) hg (by omega) (fun b o e => e) (fun h' tk0 tk kp => ⟨.str (S2 t), H, I.kept kp, fin _ _ e1, qq⟩) hz
        | none =>
          simp only [PyData.shown] at e1
          exact P.repr_of_none ⟨.str (S2 t), H, I.tok _, fin _ _ e1, qq⟩
        | bool y =>
          simp only [PyData.shown] at e1
          exact P.repr_of_bool ⟨.str (S2 t), H, I.tok _, fin _ _ (by rw [← e1]), qq⟩
        | int i tk =>
          simp only [PyData.shown] at e1
          exact P.repr_of_int (by simpa [PyData.showable] using e2) ⟨.str (S2 t), H, I.tok _, fin _ _ e1, qq⟩
        | str y tk =>
          simp only [PyData.shown] at e1
          exact P.repr_of_str ⟨.str (S2 t), H, I.tok _, fin _ _ e1, qq⟩ (by rw [e1, S2_len, ← szl_eq]; exact hl)
      · exact q.elim
    · exact q.elim
  · exact q.elim
end
end Mi
set_option Elab.async false
set_option linter.all false
set_option maxRecDepth 100000
namespace Mi
open PySem PySem.Spec PyProof.Rows L2
section
variable {X : Cx} {CT : Cts} {cl : Cl} {W : WX} {o e : Expr} {es : List Expr} {c : E} {cs : List E} {pos apos cpos : Pos}
/-- a method by values -/
def rMv (K : PySem.W.Frag) (CT : Cts) (W : WX) (f : PV → List PV → PH → R PV) : V → List V → Hp → VK → Prop := fun x vs H Q => ∃ mm G h px pvs σ, HR K CT mm G H h ∧ Rel K mm h.length G px x ∧ RelL K mm h.length G pvs vs ∧ Post K CT (Rel K) W σ mm G h.length Q (f px pvs h)
theorem MtR.imp {id : String} {r r' : V → List V → Hp → VK → Prop} (h : MtR X id r) (i : ∀ x vs H Q, r' x vs H Q → r x vs H Q) : MtR X id r' := fun pins s σ H x xs v us Q I rx rs q => h pins s σ H x xs v us Q I rx rs (i x xs H Q q)
theorem MtR.or {id : String} {r r' : V → List V → Hp → VK → Prop} (h : MtR X id r) (g : MtR X id r') : MtR X id (fun x vs H Q => r x vs H Q ∨ r' x vs H Q) := fun pins s σ H x xs v us Q I rx rs q => q.elim (h pins s σ H x xs v us Q I rx rs) (g pins s σ H x xs v us Q I rx rs)
/-- what such a method is asked of, in the layer -/
def TyM (K : PySem.W.Frag) (CT : Cts) (m T : String) : Prop := ∀ (x : PV) (v : V) (mm : Nat → Addr) (G H : Hp) (h : PH), mok m x h = true → HR K CT mm G H h → Rel K mm h.length G x v → tyV K T v H
theorem isL_inv {x : PV} {h : PH} (e : isL x h = true) : ∃ n xs, x = .ref n ∧ h[n]? = some (.lst xs) := by
  unfold isL at e
  split at e
  · split at e
    · exact ⟨_, _, rfl, by assumption⟩
    · cases e
  · cases e
theorem tyM_list {K : PySem.W.Frag} {m : String} (hm : ∀ x h, mok m x h = isL x h) : TyM K CT m "list" := fun x v mm G H h ok R r => by
  rw [hm] at ok
  obtain ⟨n, xs, rfl, e⟩ := isL_inv ok
  obtain ⟨rfl, _⟩ := r.ref_inv
  obtain ⟨vs, hH, _⟩ := R.lst e
  exact .inl ⟨rfl, _, .of hH⟩
theorem I_mth {m T id : String} {name : Str} (hcl : GroC cl) (pa : PlainAttrs T) (slot : Slot T name id) (hty : typeOf (.builtin id) = pure (.type "method_descriptor")) (hm : MtR X id (rMv X.K CT W (mthV m))) (ty : TyM X.K CT m T) (ho : PE X o (tE X.K CT cl W c)) (ha : PA X (e :: es) (tA X.K CT cl W cs))
    (hbase : attributeBase o name X.env (eval o X.env) = eval o X.env)
    (hfew : ((backTo cpos (starEach (e :: es) X.env)).all (fun x => !x.1) && (backToKw cpos (keywordEach [] X.env)).all (fun x => x.1.isSome) && decide ((e :: es).length + ([] : List Keyword).length + (if ([] : List Keyword).isEmpty then 0 else 1) < 30)) = true)
    (hline : (apos.endLine == cpos.line) = true) (hs : starEach (e :: es) X.env = (false, eval e X.env) :: starEach es X.env) (hplain : (backTo cpos (starEach es X.env)).any (·.1) = false) :
    PE X (.Call (.Attribute o name apos) (e :: es) [] cpos) (tE X.K CT cl W (.mth m c cs)) :=
  PEimp (pe_bm pa slot hty hm ho ha hbase hfew hline hs hplain) fun σ H Q ⟨mm, G, h, ρ, R, s, q⟩ => by
    simp only [ev] at q
    refine tE_first hcl R s q fun x v h1 m1 G1 H1 _ _ _ R1 s1 r1 q1 => ?_
    split at q1
    · rename_i ok
      refine ⟨ty x v m1 G1 H1 h1 ok R1 r1, tA_first hcl R1 s1 q1 fun xs vs h2 m2 G2 H2 x2 g2 l2 R2 s2 r2 q2 => ⟨m2, G2, h2, x, xs, σ, R2, r1.mono x2 l2 g2, r2, q2⟩⟩
    · exact q1.elim
theorem I_mth0 {m T id : String} {name : Str} (hcl : GroC cl) (pa : PlainAttrs T) (slot : Slot T name id) (hty : typeOf (.builtin id) = pure (.type "method_descriptor")) (hm : MtR X id (rMv X.K CT W (mthV m))) (ty : TyM X.K CT m T) (ho : PE X o (tE X.K CT cl W c))
    (hbase : attributeBase o name X.env (eval o X.env) = eval o X.env) (hline : (apos.endLine == cpos.line) = true) :
    PE X (.Call (.Attribute o name apos) [] [] cpos) (tE X.K CT cl W (.mth m c [])) :=
  PEimp (pe_bm0 pa slot hty hm ho hbase hline) fun σ H Q ⟨mm, G, h, ρ, R, s, q⟩ => by
    simp only [ev] at q
    refine tE_first hcl R s q fun x v h1 m1 G1 H1 _ _ _ R1 s1 r1 q1 => ?_
    split at q1
    · rename_i ok
      simp only [evs, bind_ok] at q1
      exact ⟨ty x v m1 G1 H1 h1 ok R1 r1, m1, G1, h1, x, [], σ, R1, r1, .nil, q1⟩
    · exact q1.elim
theorem Post.putV {K : PySem.W.Frag} {a : PV} {b : V} {Q : VK} {σ : L2.St} {mm : Nat → Addr} {G H : Hp} {h : PH} {n : Nat} {o o' : PO} {u : HO} (q : Post K CT (Rel K) W σ mm G h.length Q (.ok a (h.set n o'))) (R : HR K CT mm G H h) (e : h[n]? = some o) (k : nk o = true) (k' : nk o' = true)
    (w : ∀ H', H' (mm n) = some u → OR K CT mm h.length G H' (mm n) o') (r : Rel K mm h.length G a b) : Q b (upd H (mm n) u) := q mm G _ b Ex.refl Sub.refl (R.put e k k' w) (by rw [List.length_set]; exact r)
theorem RelL.snoc {K : PySem.W.Frag} {m : Nat → Addr} {N : Nat} {G : Hp} {xs : List PV} {vs : List V} {x : PV} {v : V} (a : RelL K m N G xs vs) (b : Rel K m N G x v) : RelL K m N G (xs ++ [x]) (vs ++ [v]) := a.append (.cons b .nil)
theorem RelL.dropLast {K : PySem.W.Frag} {m : Nat → Addr} {N : Nat} {G : Hp} : ∀ {xs : List PV} {vs : List V}, RelL K m N G xs vs → RelL K m N G xs.dropLast vs.dropLast
  | _, _, .nil => .nil
  | _, _, .cons a .nil => .nil
  | _, _, .cons a (.cons b r) => .cons a (RelL.dropLast (.cons b r))
theorem RelL.nil_inv {K : PySem.W.Frag} {m : Nat → Addr} {N : Nat} {G : Hp} {vs : List V} (r : RelL K m N G [] vs) : vs = [] := by cases r; rfl
theorem mt_append_b : MtR X "list.append" (rMv X.K CT W (mthV "append")) := by
  refine MtR.imp mt_append fun x vs H Q ⟨mm, G, h, px, pvs, σ, R, rx, rl, q⟩ => ?_
  have q : Post X.K CT (Rel X.K) W σ mm G h.length Q (appV px pvs h) := q
  unfold appV at q
  split at q
  · rename_i n y
    obtain ⟨rfl, hn⟩ := rx.ref_inv
    obtain ⟨v, rfl, rv⟩ := rl.one_inv
    split at q
    · rename_i xs ek
      obtain ⟨vs0, hH, r0⟩ := R.lst ek
      split at q
      · rename_i few
        exact ⟨_, vs0, v, rfl, rfl, hH, by rw [← r0.length, ← szl_eq]; exact few, Post.putV (u := .lst (vs0 ++ [v])) q R ek rfl rfl (fun H' e' => ⟨_, e', r0.snoc rv⟩) .non⟩
      · exact q.elim
    · exact q.elim
  · exact q.elim
theorem mt_extend_b : MtR X "list.extend" (rMv X.K CT W (mthV "extend")) := by
  refine MtR.imp mt_extend fun x vs H Q ⟨mm, G, h, px, pvs, σ, R, rx, rl, q⟩ => ?_
  have q : Post X.K CT (Rel X.K) W σ mm G h.length Q (extV px pvs h) := q
  unfold extV at q
  split at q
  · rename_i n k
    obtain ⟨rfl, hn⟩ := rx.ref_inv
    obtain ⟨v, rfl, rv⟩ := rl.one_inv
    obtain ⟨rfl, hk⟩ := rv.ref_inv
    split at q
    · rename_i xs ys ek ek2
      obtain ⟨vs0, hH, r0⟩ := R.lst ek
      obtain ⟨vs1, hH1, r1⟩ := R.lst ek2
      split at q
      · rename_i few
        exact ⟨_, _, vs0, vs1, rfl, rfl, hH, hH1, by rw [← r0.length, ← r1.length, ← szl_eq]; exact few, Post.putV (u := .lst (vs0 ++ vs1)) q R ek rfl rfl (fun H' e' => ⟨_, e', r0.append r1⟩) .non⟩
      · exact q.elim
    · exact q.elim
  · exact q.elim
theorem relL_erase {K : PySem.W.Frag} {m : Nat → Addr} {N : Nat} {G : Hp} : ∀ {xs : List PV} {vs : List V}, RelL K m N G xs vs → ∀ i, RelL K m N G (xs.eraseIdx i) (vs.eraseIdx i)
  | _, _, .nil, i => by simpa using RelL.nil
  | _, _, .cons a r, 0 => by simpa using r
  | _, _, .cons a r, i + 1 => by simpa using RelL.cons a (relL_erase r i)
theorem mt_pop_b : MtR X "list.pop" (rMv X.K CT W (mthV "pop")) := by
  refine MtR.imp (MtR.or mt_pop mt_popAt) fun x vs H Q ⟨mm, G, h, px, pvs, σ, R, rx, rl, q⟩ => ?_
  have q : Post X.K CT (Rel X.K) W σ mm G h.length Q (popV px pvs h) := q
  unfold popV at q
  split at q
  · rename_i n
    obtain ⟨rfl, hn⟩ := rx.ref_inv
    obtain rfl := rl.nil_inv
    split at q
    · rename_i xs ek
      obtain ⟨vs0, hH, r0⟩ := R.lst ek
      split at q
      · rename_i y ey
        obtain ⟨v, ev, rv⟩ := r0.get ey
        rw [r0.length] at ev
        exact .inl ⟨_, vs0, v, rfl, rfl, hH, ev, Post.putV (u := .lst vs0.dropLast) q R ek rfl rfl (fun H' e' => ⟨_, e', r0.dropLast⟩) rv⟩
      · exact q.elim
    · exact q.elim
  · rename_i n i qo
    obtain ⟨rfl, hn⟩ := rx.ref_inv
    obtain ⟨v, rfl, rv⟩ := rl.one_inv
    obtain rfl := rv.int_inv
    split at q
    · rename_i xs ek
      obtain ⟨vs0, hH, r0⟩ := R.lst ek
      split at q
      · rename_i hi
        subst hi
        split at q
        · rename_i y r
          cases r0 with
          | @cons _ w _ ws a b =>
            exact .inr ⟨_, w :: ws, 0, 0, w, rfl, rfl, hH, by decide, by decide, by simp [seqIndex?], rfl, Post.putV (u := .lst ws) q R ek rfl rfl (fun H' e' => ⟨_, e', b⟩) a⟩
        · exact q.elim
      · split at q
        · rename_i hi
          have hl := r0.length
          cases ey : xs[i.toNat]? with
          | none => rw [ey] at q; exact q.elim
          | some y =>
            rw [ey] at q
            obtain ⟨v, ev, rv⟩ := r0.get ey
            refine .inr ⟨_, vs0, i, i.toNat, v, rfl, rfl, hH, by omega, by omega, ?_, ev, Post.putV (u := .lst (vs0.eraseIdx i.toNat)) q R ek rfl rfl (fun H' e' => ⟨_, e', relL_erase r0 _⟩) rv⟩
            unfold seqIndex?
            simp only [show ¬ i < 0 by omega, if_false]
            rw [if_pos]
            simp only [Bool.and_eq_true, decide_eq_true_eq]
            omega
        · exact q.elim
    · exact q.elim
  · exact q.elim
end
end Mi
set_option Elab.async false
set_option linter.all false
set_option maxRecDepth 100000
namespace Mi
open PySem PySem.Spec PyProof.Rows L2
section
variable {P : Program} {w : World} {A : Around} {Er : Value → Shared → Prop} {z : Shared}
end
section
variable {X : Cx} {CT : Cts} {cl : Cl} {W : WX} {e1 : Expr} {c1 : E} {pos : Pos}
theorem RelL.rev {K : PySem.W.Frag} {m : Nat → Addr} {N : Nat} {G : Hp} : ∀ {xs : List PV} {vs : List V}, RelL K m N G xs vs → RelL K m N G xs.reverse vs.reverse
  | _, _, .nil => .nil
  | _, _, .cons a r => by
    rw [List.reverse_cons, List.reverse_cons]
    exact (RelL.rev r).append (.cons a .nil)
end
end Mi
set_option Elab.async false
set_option linter.all false
set_option maxRecDepth 100000
namespace Mi
open PySem PySem.Spec PyProof.Rows L2
mutual
def kvB (K : PySem.W.Frag) : Nat → PV → Value → Bool
  | 0, _, _ => false
  | n + 1, x, u => match x, u with
    | .non, .none => true
    | .bl b, .bool c => b == c
    | .int i, .int j _ => decide (i = j)
    | .str s, .str y _ => decide (y = S2 s)
    | .tup xs, .ref a => match K.lookup a with
      | some o => match o.data with
        | .seq its _ => decide (o.cls = .type "tuple") && decide (its.size ≤ sizeLine) && kvBs K n xs its.toList
        | _ => false
      | none => false
    | _, _ => false
def kvBs (K : PySem.W.Frag) : Nat → List PV → List Value → Bool
  | _, [], [] => true
  | 0, _, _ => false
  | n + 1, x :: r, u :: t => kvB K n x u && kvBs K n r t
  | _, _, _ => false
end
mutual
theorem kvB_ok {K : PySem.W.Frag} : ∀ {n : Nat} {x : PV} {u : Value}, kvB K n x u = true → ∃ v, L2.RelV v u ∧ ∀ m N G, Rel K m N G x v
  | 0, _, _, h => by simp [kvB] at h
  | n + 1, x, u, h => by
    unfold kvB at h
    split at h
    · exact ⟨.non, rfl, fun _ _ _ => .non⟩
    · exact ⟨.bl _, by rw [eq_of_beq h]; rfl, fun _ _ _ => .bl _⟩
    · rw [of_decide_eq_true h]
      exact ⟨.int _, ⟨_, rfl⟩, fun _ _ _ => .int _⟩
    · rw [of_decide_eq_true h]
      exact ⟨.str _, ⟨_, rfl⟩, fun _ _ _ => .str _⟩
    · split at h
      · rename_i a _ o ho
        split at h
        · rename_i its k hd
          simp only [Bool.and_eq_true, decide_eq_true_eq] at h
          obtain ⟨⟨h1, h2⟩, h3⟩ := h
          obtain ⟨vs, r, q⟩ := kvBs_ok h3
          exact ⟨.ref a, rfl, fun m N G => .tup (.inr ⟨o, its, k, ho, h1, hd, h2, r⟩) (q m N G)⟩
        · cases h
      · cases h
    · cases h
theorem kvBs_ok {K : PySem.W.Frag} : ∀ {n : Nat} {xs : List PV} {us : List Value}, kvBs K n xs us = true → ∃ vs, Vals vs us ∧ ∀ m N G, RelL K m N G xs vs
  | n, [], [], _ => ⟨[], .nil, fun _ _ _ => .nil⟩
  | 0, _ :: _, _, h => by simp [kvBs] at h
  | 0, [], _ :: _, h => by simp [kvBs] at h
  | n + 1, [], _ :: _, h => by simp [kvBs] at h
  | n + 1, _ :: _, [], h => by simp [kvBs] at h
  | n + 1, x :: r, u :: t, h => by
    rw [kvBs, Bool.and_eq_true] at h
    obtain ⟨v, r1, q1⟩ := kvB_ok h.1
    obtain ⟨vs, r2, q2⟩ := kvBs_ok h.2
    exact ⟨v :: vs, .cons r1 r2, fun m N G => .cons (q1 m N G) (q2 m N G)⟩
end
def gdEs (K : PySem.W.Frag) : List DictEntry → List (PV × PV) → Bool
  | [], [] => true
  | e :: r, (.str k, v) :: t => match e.key with
    | .str x _ => decide (x = S2 k) && kvB K 50 v e.val && gdEs K r t
    | _ => false
  | _, _ => false
def gdB (K : PySem.W.Frag) (a : Addr) (kvs : List (PV × PV)) : Bool := match K.lookup a with
  | some ⟨_, _, .dict es _, _⟩ => gdEs K es.toList kvs
  | _ => false
/-- what a key finds -/
def Fnd (K : PySem.W.Frag) (s : List Char) (kvs : List (PV × PV)) (r : Option (Option Value)) : Prop := match lookK (.str s) kvs with
  | some x => ∃ u v, r = some (some u) ∧ L2.RelV v u ∧ ∀ m N G, Rel K m N G x v
  | none => r = some none
theorem gdEs_ok {K : PySem.W.Frag} (s : List Char) : ∀ {es : List DictEntry} {kvs : List (PV × PV)}, gdEs K es kvs = true → Fnd K s kvs (match es.find? (·.key.isStr (S2 s)) with
      | some e => some (some e.val)
      | none => if es.any (·.refKey) then none else some none) ∧ es.any (·.refKey) = false
  | [], [], _ => ⟨rfl, rfl⟩
  | [], _ :: _, h => by simp [gdEs] at h
  | e :: r, [], h => by simp [gdEs] at h
  | e :: r, (k, v) :: t, h => by
    cases k with
    | str k =>
      rw [gdEs] at h
      split at h
      · rename_i x tk ek
        simp only [Bool.and_eq_true, decide_eq_true_eq] at h
        obtain ⟨⟨h1, h2⟩, h3⟩ := h
        obtain ⟨i1, i2⟩ := gdEs_ok s h3
        have rk : e.refKey = false := by
          unfold DictEntry.refKey
          rw [ek]
        refine ⟨?_, by rw [List.any_cons, rk, i2]; rfl⟩
        have is : e.key.isStr (S2 s) = decide (k = s) := by
          rw [ek, h1]
          show (S2 k == S2 s) = _
          rw [str_beqS]
          by_cases hk : k = s
          · rw [hk]; simp
          · rw [decide_eq_false hk]; simp [hk]
        rw [List.find?_cons, is, List.any_cons, rk, Bool.false_or]
        unfold Fnd
        rw [lookK]
        by_cases hk : k = s
        · subst hk
          rw [if_pos rfl]
          obtain ⟨v0, r0, q0⟩ := kvB_ok h2
          simp only [decide_true]
          exact ⟨_, v0, rfl, r0, q0⟩
        · rw [if_neg (fun z => hk (by injection z))]
          simp only [decide_eq_false hk]
          unfold Fnd at i1
          rw [i2] at i1
          rw [i2]
          exact i1
      · cases h
    | _ => simp [gdEs] at h
/-- such a dict, by name of its address -/
structure GDi (K : PySem.W.Frag) (w : World) (a : Addr) (kvs : List (PV × PV)) : Prop where
  kd : ∃ es n, KDict K w a es n
  ck : gdB K a kvs = true
theorem GDi.get {K : PySem.W.Frag} {w : World} {a : Addr} {kvs : List (PV × PV)} (D : GDi K w a kvs) (s : List Char) : Fnd K s kvs (PySem.W.nsIn K a (S2 s)) := by
  have h := D.ck
  unfold gdB at h
  split at h
  · rename_i es n sl ho
    have q := (gdEs_ok s h).1
    unfold PySem.W.nsIn
    rw [ho]
    exact q
  · cases h
section
variable {X : Cx} {CT : Cts} {cl : Cl} {W : WX} {e1 : Expr} {c1 : E} {pos p : Pos} {x : Str} {a : Addr}
theorem I_gk {c : PV} (hg : Gl X x) (hm : X.mg x = some (.ref a)) (hk : kvB X.K 50 c (.ref a) = true) (hd : (x == ("__debug__" : Str)) = false) : PE X (.Name x pos) (tE X.K CT cl W (.k c)) := by
  obtain ⟨v, r, q⟩ := kvB_ok hk
  exact I_k (pe_glob hg hm r hd) q
theorem I_tgnin {kvs : List (PV × PV)} (hcl : GroC cl) (D : GDi X.K X.w a kvs) (h1 : PE X e1 (tE X.K CT cl W c1)) (hg : Gl X x) (hm : X.mg x = some (.ref a)) (hd : (x == ("__debug__" : Str)) = false) : PT X (.Compare e1 [.NotIn] [.Name x p] pos) (tT X.K CT cl W (.gin true kvs c1)) := by
  obtain ⟨es, n, kd⟩ := D.kd
  refine PTimp (pt_cmpR (op_notIn_kd kd) h1 (pe_glob (v := .ref a) hg hm (show L2.RelV (.ref a) (.ref a) from rfl) hd) rfl) fun σ H Q ⟨m, G, h, ρ, R, s, q⟩ => ?_
  have z : tst cl (.gin true kvs c1) ρ h = (ev cl c1 ρ h).bind fun x h1 => if isS x then .ok (if true then !(lookK x kvs).isSome else (lookK x kvs).isSome) h1 else .bad := by
    simp only [tst, ev]
    cases ev cl c1 ρ h with
    | ok x h1 =>
      simp only [bind_ok]
      cases isS x <;> rfl
    | exc x h1 => rfl
    | bad => rfl
  rw [z] at q
  refine tE_first hcl R s q fun y v h1 m1 G1 H1 _ _ _ R1 s1 r1 q1 => ?_
  split at q1
  · rename_i hs
    cases y with
    | str t =>
      obtain rfl := r1.str_inv
      have f := D.get t
      unfold Fnd at f
      cases e : lookK (.str t) kvs with
      | none =>
        rw [e] at f q1
        exact ⟨_, _, rfl, rfl, f, _, rfl, Post.now q1 R1 rfl⟩
      | some z =>
        rw [e] at f q1
        obtain ⟨u, w, f1, _, _⟩ := f
        exact ⟨_, _, rfl, rfl, f1, _, rfl, Post.now q1 R1 rfl⟩
    | _ => cases hs
  · exact q1.elim
theorem I_gget {kvs : List (PV × PV)} (hcl : GroC cl) (D : GDi X.K X.w a kvs) (h1 : PE X e1 (tE X.K CT cl W c1)) (hg : Gl X x) (hm : X.mg x = some (.ref a)) (hd : (x == ("__debug__" : Str)) = false) (hs : PlainIx e1) : PE X (.Subscript (.Name x p) e1 pos) (tE X.K CT cl W (.gget kvs c1)) := by
  obtain ⟨es, n, kd⟩ := D.kd
  refine PEimp (pe_ix ix_kdict (pe_glob (v := .ref a) hg hm (show L2.RelV (.ref a) (.ref a) from rfl) hd) h1 hs) fun σ H Q ⟨m, G, h, ρ, R, s, q⟩ => ?_
  simp only [ev] at q
  refine tE_first hcl R s q fun y v h1 m1 G1 H1 _ _ _ R1 s1 r1 q1 => ?_
  split at q1
  · rename_i hs
    cases y with
    | str t =>
      obtain rfl := r1.str_inv
      have f := D.get t
      unfold Fnd at f
      cases e : lookK (.str t) kvs with
      | none =>
        rw [e] at q1
        exact q1.elim
      | some z =>
        rw [e] at f q1
        obtain ⟨u, w, f1, f2, f3⟩ := f
        exact ⟨_, _, w, rfl, rfl, ⟨es, n, u, kd.at_, kd.lit, f1, f2⟩, Post.now q1 R1 (f3 _ _ _)⟩
    | _ => cases hs
  · exact q1.elim
end
theorem mapO_rel {K : PySem.W.Frag} {m : Nat → Addr} {N : Nat} {G : Hp} {xs : List PV} {vs : List V} (r : RelL K m N G xs vs) : ∀ {ix : List Nat} {ys : List PV}, mapO (fun i => xs[i]?) ix = some ys → ∃ ws, mapO (fun i => vs[i]?) ix = some ws ∧ RelL K m N G ys ws
  | [], ys, e => by
    have e' : ys = [] := by simpa [mapO] using e.symm
    subst e'
    exact ⟨[], by simp [mapO], .nil⟩
  | i :: ix, ys, e => by
    rw [mapO] at e
    cases e1 : xs[i]? with
    | none => rw [e1] at e; simp at e
    | some x =>
      rw [e1] at e
      cases e2 : mapO (fun i => xs[i]?) ix with
      | none => rw [e2] at e; simp at e
      | some t =>
        rw [e2] at e
        have e' : ys = x :: t := by simpa using e.symm
        subst e'
        obtain ⟨v, q1, q2⟩ := r.get e1
        obtain ⟨ws, q3, q4⟩ := mapO_rel r e2
        exact ⟨v :: ws, by rw [mapO, q1, q3], .cons q2 q4⟩
theorem vals_get : ∀ {vs : List V} {us : List Value} {i : Nat} {v : V}, Vals vs us → vs[i]? = some v → ∃ u, us[i]? = some u ∧ L2.RelV v u
  | _, _, _, _, .nil, e => by simp at e
  | _, _, 0, _, .cons a r, e => by
    simp at e
    subst e
    exact ⟨_, rfl, a⟩
  | _, _, i + 1, _, .cons a r, e => by
    obtain ⟨v, h1, h2⟩ := vals_get (i := i) r (by simpa using e)
    exact ⟨v, by simpa using h1, h2⟩
theorem mapO_vals {xs : List V} {vs : List Value} (r : Vals xs vs) : ∀ {ix : List Nat} {ys : List V}, mapO (fun i => xs[i]?) ix = some ys → ∃ ws, mapO (fun i => vs[i]?) ix = some ws ∧ Vals ys ws
  | [], ys, e => by
    have e' : ys = [] := by simpa [mapO] using e.symm
    subst e'
    exact ⟨[], by simp [mapO], .nil⟩
  | i :: ix, ys, e => by
    rw [mapO] at e
    cases e1 : xs[i]? with
    | none => rw [e1] at e; simp at e
    | some x =>
      rw [e1] at e
      cases e2 : mapO (fun i => xs[i]?) ix with
      | none => rw [e2] at e; simp at e
      | some t =>
        rw [e2] at e
        have e' : ys = x :: t := by simpa using e.symm
        subst e'
        obtain ⟨v, q1, q2⟩ := vals_get r e1
        obtain ⟨ws, q3, q4⟩ := mapO_vals r e2
        exact ⟨v :: ws, by rw [mapO, q1, q3], .cons q2 q4⟩
/-- the def binds these keywords in this order -/
def KBi (fd : FuncData) (ps ks : List Str) (ix : List Nat) : Prop := ∀ (s : Shared) (ws us : List Value), ws.length = ks.length → mapO (fun i => ws[i]?) ix = some us → BindsTo s fd ⟨[], ks.zip ws⟩ (ps.zip us)
structure KCal (P : Program) (w : World) (K : PySem.W.Frag) (mg : Str → Option Value) (base : Heap) (CT : Cts) (cl : Cl) (k : Nat) (f : FN) (a : Addr) (ks : List Str) (ix : List Nat) : Prop where
  ex : ∃ fd ps, FnG P w K mg base k a fd ps (spI K CT cl f) ∧ KBi fd ps ks ix
theorem kbi_of {K : PySem.W.Frag} {x qual : Str} {st : Stmt} {f : Addr} {fd : FuncData} {ps ks : List Str} {ix : List Nat} (F : Fun K x qual st f fd)
    (h : ∀ (kV doc pm : Value) (an : Option Addr) (cdv ct : Value) (ws us : List Value), ws.length = ks.length → mapO (fun i => ws[i]?) ix = some us → bindArgs (PySem.W.fnOf x qual (defArgs st) (defBody st) (defScope st) .none kV doc pm an cdv ct) ⟨[], ks.zip ws⟩ = pure (ps.zip us)) : KBi fd ps ks ix := by
  obtain ⟨oc, od, kV, doc, pm, an, cdv, ct, osl, rfl, lk, hcd⟩ := F.ex
  exact fun s ws us h1 h2 => .of_eq (h kV doc pm an cdv ct ws us h1 h2)
section
variable {X : Cx} {CT : Cts} {cl : Cl} {W : WX} {k : Nat} {f : FN} {a : Addr}
theorem run_kcal {ks : List Str} {ix : List Nat} (F : KCal X.prog X.w X.K X.mg X.base CT cl k f a ks ix) (hr : Room k X.A) (hg : X.A.guards = some []) (tk : Takes X W) {pins : List (Addr × Obj)} {σ : L2.St} {H : Hp} {s : Shared} {Q : VK} {us : List Value} {vs : List V} {m : Nat → Addr} {G : Hp} {h : PH} {pvs qvs : List PV}
    (I : Inv X pins σ H s) (r : Vals vs us) (hl : us.length = ks.length) (R : HR X.K CT m G H h) (rl : RelL X.K m h.length G pvs vs) (e : permV ix pvs = some qvs) (p : Post X.K CT (Rel X.K) W σ m G h.length Q (cl f qvs h)) : wpAny (model X.prog X.w) X.A (call (.ref a) [] (ks.zip us)) (EP X pins σ Q) X.xe s := by
  obtain ⟨fd, ps, F, hb⟩ := F.ex
  unfold permV at e
  split at e
  case isFalse => cases e
  obtain ⟨ws, e1, r1⟩ := mapO_rel rl e
  obtain ⟨ys, e2, r2⟩ := mapO_vals r e1
  have hsp : spI X.K CT cl f ws H Q (fun cls d H' => W cls d σ H') := ⟨m, G, h, qvs, R, r1, p.slots fun _ _ _ z => z⟩
  refine wpAny_call (codeAny_mono (F.go X.A X.stack s H ⟨[], ks.zip us⟩ ys ws Q _ hr hg I.env0 (hb s us ys hl e2) r2 hsp) fun r s' hq => ?_)
  cases r with
  | error e => exact tk e s' (XE.of_call I (fun _ _ _ z => z) hq)
  | ok fl =>
    cases fl with
    | ret u => exact I.after hq
    | next => exact False.elim hq
    | brk => exact False.elim hq
    | cont => exact False.elim hq
theorem PKimp {kws : List Keyword} {t t' : TA} (h : L2.PK X kws t) (i : ∀ σ H Q, t' σ H Q → t σ H Q) : L2.PK X kws t' := ⟨fun pos pins s σ H Q I q => h.run pos pins s σ H Q I (i _ _ _ q)⟩
theorem K_nil : L2.PK X [] (tA X.K CT cl W []) := PKimp pk_nil fun σ H Q ⟨m, G, h, ρ, R, s, q⟩ => by
  simp only [evs] at q
  exact Post.now q R .nil
theorem K_cons {kws : List Keyword} {e1 : Expr} {c1 : E} {cs : List E} {nm : Option Str} {kpos : Pos} (hcl : GroC cl) (h1 : PE X e1 (tE X.K CT cl W c1)) (h2 : L2.PK X kws (tA X.K CT cl W cs)) : L2.PK X (⟨nm, e1, kpos⟩ :: kws) (tA X.K CT cl W (c1 :: cs)) :=
  PKimp (pk_cons h1 h2) fun σ H Q ⟨m, G, h, ρ, R, s, q⟩ => by
    simp only [evs] at q
    exact tE_first hcl R s q fun x v h1 m1 G1 H1 _ _ _ R1 s1 r1 q1 => tA_first hcl R1 s1 q1 fun y u h2 m2 G2 H2 x2 g2 l2 R2 s2 r2 q2 => Post.now q2 R2 (.cons (r1.mono x2 l2 g2) r2)
theorem I_callk {g : String} {x : Str} {p pos : Pos} {ks : List Str} {ix : List Nat} {kws : List Keyword} {cs : List E} (hcl : GroC cl) (F : KCal X.prog X.w X.K X.mg X.base CT cl k (.f g) a ks ix) (hr : Room k X.A) (hgd : X.A.guards = some []) (tk : Takes X W) (hg : Gl X x) (hm : X.mg x = some (.ref a)) (hk : PySem.W.keepIn X.K (.ref a) = true)
    (ha : L2.PK X kws (tA X.K CT cl W cs)) (hn : ix.length = ks.length) (hks : (backToKw pos (keywordEach kws X.env)).filterMap (·.1) = ks) (hdb : (x == ("__debug__" : Str)) = false) (hall : (backToKw pos (keywordEach kws X.env)).all (·.1.isSome) = true)
    (hpl : ((backTo pos (starEach [] X.env)).any (·.1) || (backToKw pos (keywordEach kws X.env)).any (·.1.isNone)) = false) :
    PE X (.Call (.Name x p) [] kws pos) (tE X.K CT cl W (.callk g ix cs)) := by
  refine ⟨fun pins s σ H Q I ⟨m, G, h, ρ, R, sr, q⟩ => ?_⟩
  simp only [ev] at q
  refine wpAny_Call_Name_kw (ld_glob I hg hm ?_ hdb)
  refine PySem.W.callWith_KW0 (h₀ := X.base) I.ok.mod.kin hk hall (thn (ha.run pos pins s σ H _ I (tA_first (Q1 := fun vs H1 => ∃ m1 G1 h1 pvs, HR X.K CT m1 G1 H1 h1 ∧ RelL X.K m1 h1.length G1 pvs vs ∧ vs.length = ks.length ∧ ∃ qvs, permV ix pvs = some qvs ∧ Post X.K CT (Rel X.K) W σ m1 G1 h1.length Q (cl (.f g) qvs h1)) hcl R sr q
    fun y v h1 m1 G1 H1 _ _ _ R1 _ rl q1 => ?_)) fun us s1 ⟨vs, H1, I1, r, m1, G1, h1, pvs, R1, rl, hl, qvs, e, q1⟩ => ⟨I1.kIn, ?_⟩) hpl
  · split at q1
    · rename_i qvs e
      refine ⟨m1, G1, h1, y, R1, rl, ?_, qvs, e, q1⟩
      unfold permV at e
      split at e
      case isFalse => cases e
      rename_i hl
      rw [← rl.length, hl, hn]
    · exact q1.elim
  · rw [hks]
    exact run_kcal F hr hgd tk I1 r (by rw [← r.length]; exact hl) R1 rl e q1
end
end Mi
set_option Elab.async false
set_option linter.all false
set_option maxRecDepth 100000
namespace Mi
open PySem PySem.Spec PyProof.Rows L2
section
variable {nh : NestedKey → Int}
abbrev gaS (K : PySem.W.Frag) (c : String) : Addr := He.ga K (SO c)
/-- the classes of instances and of exceptions, by name -/
abbrev CTm (ins exc : List String) (K : PySem.W.Frag) (tb : List (Addr × Str) := []) (gh : List GF := []) (nh : NestedKey → Int := fun _ => 0) : Cts := ⟨fun c C => c ∈ ins ∧ C = gaS K c, fun c C => c ∈ exc ∧ C = gaS K c, tb, gh, nh⟩
variable {tb : List (Addr × Str)} {gh : List GF}
def tyTB (K : PySem.W.Frag) (ins exc : List String) (u : Value) (ts : List String) : Bool :=
  (["NoneType", "bool", "int", "str", "tuple", "list", "dict"].all fun n => decide (PySem.W.kitOne K (.type n) u = some (decide (n ∈ ts)))) && ((ins ++ exc).all fun c => decide (PySem.W.kitOne K (.ref (gaS K c)) u = some (decide (c ∈ ts))))
theorem tyTB_ok {K : PySem.W.Frag} {ins exc : List String} {u : Value} {ts : List String} (h : tyTB K ins exc u ts = true) : TyT K (CTm ins exc K tb gh nh) u ts := by
  unfold tyTB at h
  rw [Bool.and_eq_true, List.all_eq_true, List.all_eq_true] at h
  refine ⟨fun n hn => of_decide_eq_true (h.1 n hn), fun c C hc => ?_, fun c C hc => ?_⟩
  · obtain ⟨h1, rfl⟩ := hc
    exact of_decide_eq_true (h.2 c (List.mem_append_left _ h1))
  · obtain ⟨h1, rfl⟩ := hc
    exact of_decide_eq_true (h.2 c (List.mem_append_right _ h1))
def excCB (K : PySem.W.Frag) (D : Addr) : Bool :=
  decide (PySem.W.findIn K (.ref D) "__getattribute__" = some (some (.builtin "BaseException.__getattribute__"))) && (decide (PySem.W.findIn K (.ref D) "__getattr__" = some none) && (decide (PySem.W.subIn K (.ref D) (.type "BaseException") = some true) && (PySem.W.hasDictIn K D &&
    (decide (PySem.W.findIn K (.ref D) "__class__" = some (some (.builtin "object.__class__"))) && (decide (PySem.W.specialIn K (.builtin "object.__class__") "__get__" = some (some (.builtin "getset_descriptor.__get__"))) && (decide (PySem.W.takesIn K (.builtin "object.__class__") = some true) && decide (PySem.W.mroIn K D (.type "object") = some true)))))))
theorem excCB_ok {K : PySem.W.Frag} {D : Addr} (h : excCB K D = true) : ExcC K D := by
  unfold excCB at h
  simp only [Bool.and_eq_true, decide_eq_true_eq] at h
  obtain ⟨h1, h2, h3, h4, h5, h6, h7, h8⟩ := h
  exact ⟨h1, h2, h3, h4, h5, h6, h7, h8⟩
def excAllB (K : PySem.W.Frag) (exc : List String) : Bool := exc.all fun c => excCB K (gaS K c)
theorem excAllB_ok {K : PySem.W.Frag} {ins exc : List String} (h : excAllB K exc = true) : ∀ c C, (CTm ins exc K tb gh nh).exc c C → ExcC K C := by
  unfold excAllB at h
  rw [List.all_eq_true] at h
  rintro c C ⟨h1, rfl⟩
  exact excCB_ok (h c h1)
/-- which exceptions an except clause takes -/
def exmB (K : PySem.W.Frag) (exc : List String) (q : String) (ks : List String) : Bool := exc.all fun c => decide (PySem.W.exmOne K (.ref (gaS K c)) (.ref (gaS K q)) = some (decide (c ∈ ks)))
theorem exmB_ok {K : PySem.W.Frag} {ins exc : List String} {q : String} {ks : List String} (h : exmB K exc q ks = true) : ∀ c C, (CTm ins exc K tb gh nh).exc c C → PySem.W.exmOne K (.ref C) (.ref (gaS K q)) = some (decide (c ∈ ks)) := by
  unfold exmB at h
  rw [List.all_eq_true] at h
  rintro c C ⟨h1, rfl⟩
  exact of_decide_eq_true (h c h1)
/-- no class has the attribute f -/
def xfAllB (K : PySem.W.Frag) (exc : List String) (f : String) : Bool := exc.all fun c => xfB K (gaS K c) && decide (PySem.W.findIn K (.ref (gaS K c)) (SO f) = some none)
theorem xfAllB_ok {K : PySem.W.Frag} {ins exc : List String} {f : String} (h : xfAllB K exc f = true) : ∀ c C, (CTm ins exc K tb gh nh).exc c C → XfC K C ∧ PySem.W.findIn K (.ref C) (SO f) = some none := by
  unfold xfAllB at h
  rw [List.all_eq_true] at h
  rintro c C ⟨h1, rfl⟩
  have q := h c h1
  rw [Bool.and_eq_true] at q
  exact ⟨xfB_ok q.1, of_decide_eq_true q.2⟩
section
variable {P : Program} {w : World} {K : PySem.W.Frag} {mg : Str → Option Value} {base : Heap} {CT : Cts} {t : FN → Option Fn} {n k : Nat} {f : FN} {d : Fn} {a : Addr} {fd : FuncData} {ps ks : List Str} {ix : List Nat}
theorem spI_succ (h : t f = some d) : spI K CT (callN t (n + 1)) f = spB K CT (callN t n) d := by
  have z : ∀ pvs g, callN t (n + 1) f pvs g = d.run (callN t n) pvs g := fun pvs g => by simp only [callN, h]
  funext vs H Q E
  unfold spI spB
  simp only [z]
theorem kcal_succ (h : t f = some d) (F : FnG P w K mg base k a fd ps (spB K CT (callN t n) d)) (b : KBi fd ps ks ix) : KCal P w K mg base CT (callN t (n + 1)) k f a ks ix := by
  refine ⟨fd, ps, ?_, b⟩
  rw [spI_succ h]
  exact F
theorem kcal_zero (b : KBi fd ps ks ix) : KCal P w K mg base CT (callN t 0) k f a ks ix := by
  refine ⟨fd, ps, FnG.none fun vs H Q E z => ?_, b⟩
  obtain ⟨m, G, h, pvs, _, _, q⟩ := z
  exact q
end
section
variable {X : Cx} {CT : Cts} {cl : Cl} {W : WX}
/-- a class of the top, where isinstance asks for it -/
theorem I_own {x : Str} {a : Addr} {p : Pos} (hg : Gl X x) (hm : X.mg x = some (.ref a)) (hd : (x == ("__debug__" : Str)) = false) : PE X (.Name x p) (tC (.ref a)) := pe_glob (v := .ref a) hg hm (show L2.RelV (.ref a) (.ref a) from rfl) hd
end
end
end Mi
set_option Elab.async false
set_option linter.all false
set_option maxRecDepth 100000
namespace Mi
open PySem PySem.Spec PyProof.Rows L2
section
variable {X : Cx} {o e : Expr} {es : List Expr} {to te : TE} {ta : TA} {f : Str} {p p' p1 p2 pos : Pos}
/-- what the base class must say: its __init__ is ValueError's -/
structure BaseI (K : PySem.W.Frag) (B : Addr) (mc : Value) : Prop where
  rd : PySem.W.readsIn K B mc = true
  ga : PySem.W.specialIn K (.ref B) "__getattribute__" = some (some (.builtin "type.__getattribute__"))
  at_ : PySem.W.findCls K (.ref B) mc "__init__" = some (.val (.builtin "ValueError.__init__"))
end
/-- what such an __init__ does: from the exception that is being made and a value, to the exception with it -/
def spInit (K : PySem.W.Frag) (C : Addr) (f : Str) : Sp := fun vs H Q _ => ∃ (a : Addr) (v : V), vs = [.ref a, v] ∧ H a = some (exo a C none) ∧ ∀ dx, H dx = none → dx ≠ a → Q .non (upd (upd H dx (exd dx [(f, v)])) a (exo a C (some dx)))
section
variable {P : Program} {w : World} {K : PySem.W.Frag} {mg : Str → Option Value} {base : Heap}
/-- the facts of an own error class with such an __init__ -/
structure LowI (P : Program) (w : World) (K : PySem.W.Frag) (mg : Str → Option Value) (base : Heap) (x f : Str) (C : Addr) : Prop where
  gC : mg x = some (.ref C)
  ox : OexC K C
  ini : ∃ (g : Addr) (fd : FuncData), PySem.W.findIn K (.ref C) "__init__" = some (some (.ref g)) ∧ PySem.W.typeIn K (.ref g) = some (.type "function") ∧ FnOk P w K mg base CX0 1 g fd ["self", f] (spInit K C f) ∧ Binds K fd ["self", f] []
end
section
variable {X : Cx} {CT : Cts} {cl : Cl} {W : WX} {e : Expr} {c : E} {pos p : Pos}
end
end Mi
set_option Elab.async false
set_option linter.all false
set_option maxRecDepth 100000
namespace Mi
open PySem PySem.Spec PyProof.Rows L2
/-- the statements of a class -/
def clsB : Stmt → List Stmt
  | .ClassDef _ _ _ body .. => body
  | _ => []
/-- the i-th of them -/
def inCls (st : Stmt) (i : Nat) : Stmt := (clsB st).getD i (.Pass ⟨0, 0, 0, 0⟩)
structure LowF (K : PySem.W.Frag) (q f : String) : Prop where
  ox : OexC K (gaS K q)
  no : PySem.W.findIn K (.ref (gaS K q)) (SO f) = some none
  i1 : PySem.W.findIn K (.ref (gaS K q)) "__init__" = some (some (.ref (He.ma K (gaS K q) "__init__")))
  i2 : PySem.W.typeIn K (.ref (He.ma K (gaS K q) "__init__")) = some (.type "function")
end Mi
set_option Elab.async false
set_option linter.all false
set_option maxRecDepth 100000
namespace Mi
open PySem PySem.Spec PyProof.Rows L2
theorem make_guards {A : Around} {C : Addr} {us : List Value} {kw : List (Str × Value)} (h : A.guards = some []) : (A.under (.builtin "type.__call__" ⟨.ref C :: us, kw⟩)).guards = some [] := by
  first
    | exact h
    | simpa [Around.under, Code.guards, Code.isGuard, Code.frames, Code.isFrame, guardIds, pushGuards] using h
section
variable {X : Cx} {CT : Cts} {cl : Cl} {W : WX} {k : Nat}
theorem run_new {c : String} {C g : Addr} (M : Mk X.K C g) (F : Cal X.prog X.w X.K X.mg X.base CT cl k (.m c "__init__") g) (ct : CT.ins c C) (hr : Room (k + 1) X.A) (hg : X.A.guards = some []) (tk : Takes X W) {pins : List (Addr × Obj)} {σ : L2.St} {H : Hp} {s : Shared} {Q : VK} {us : List Value} {vs : List V} {m : Nat → Addr} {G : Hp} {h : PH} {pvs : List PV}
    (I : Inv X pins σ H s) (r : Vals vs us) (R : HR X.K CT m G H h) (rl : RelL X.K m h.length G pvs vs) (p : Post X.K CT (Rel X.K) W σ m G h.length Q ((cl (.m c "__init__") (.ref h.length :: pvs) (h ++ [.ins c []])).bind fun r h2 => if r = .non then .ok (.ref h.length) h2 else .bad))
    (gro : Gro (h ++ [PO.ins c []]) (cl (.m c "__init__") (.ref h.length :: pvs) (h ++ [.ins c []]))) : wpAny (model X.prog X.w) X.A (call (.ref C) us) (EP X pins σ Q) X.xe s := by
  obtain ⟨fd, ps, F, hb⟩ := F.ex
  have f1 : H (s.heap.objs.size + 1) = none := I.hok.fresh (Nat.le_succ _)
  have f2 : H s.heap.objs.size = none := I.hok.fresh (Nat.le_refl _)
  have ne : s.heap.objs.size ≠ s.heap.objs.size + 1 := Nat.ne_of_lt (Nat.lt_succ_self _)
  have I2 := Inv.made (C := C) I
  generalize hx : s.heap.objs.size + 1 = x at *
  generalize hd : s.heap.objs.size = dx at *
  have R2 : HR X.K CT (mx m h.length x) G (upd (upd H dx (.own x)) x (.ins C dx [])) (h ++ [.ins c []]) := R.new (p := x) (o := .ins c []) f1 (fun b hb => by
    rw [upd_ne fun z => hb (by rw [z]; exact f1), upd_ne fun z => hb (by rw [z]; exact f2)]) ⟨C, dx, [], ct, upd_same, trivial⟩ rfl
  have hN : (h ++ [PO.ins c []]).length = h.length + 1 := by simp
  have rx : Rel X.K (mx m h.length x) (h ++ [PO.ins c []]).length G (.ref h.length) (.ref x) := by
    have q : Rel X.K (mx m h.length x) (h ++ [PO.ins c []]).length G (.ref h.length) (.ref (mx m h.length x h.length)) := .ref (by rw [hN]; omega)
    rw [mx_new] at q
    exact q
  have rl2 : RelL X.K (mx m h.length x) (h ++ [PO.ins c []]).length G (.ref h.length :: pvs) (.ref x :: vs) := .cons rx (rl.mono mx_ex (by rw [hN]; omega) Sub.refl)
  have hsp : spI X.K CT cl (.m c "__init__") (.ref x :: vs) (upd (upd H dx (.own x)) x (.ins C dx [])) (fun v H2 => v = .non ∧ Q (.ref x) H2) (fun cls d H' => W cls d σ H') := by
    refine ⟨_, G, _, _, R2, rl2, ?_⟩
    cases e : cl (.m c "__init__") (.ref h.length :: pvs) (h ++ [.ins c []]) with
    | bad => rw [e] at p; exact p.elim
    | exc y h2 =>
      rw [e] at p
      exact fun m' G' H' cls d e1 e2 e3 e4 => p m' G' H' cls d ((mx_ex (p := x)).trans e1 (by rw [hN]; omega)) e2 e3 e4
    | ok a h2 =>
      rw [e] at p gro
      have gl : h.length + 1 ≤ h2.length := by
        have z : (h ++ [PO.ins c []]).length ≤ h2.length := gro
        omega
      rw [bind_ok] at p
      intro m' G' H' b e1 e2 e3 e4
      split at p
      · rename_i ha
        subst ha
        refine ⟨e4.non_inv, ?_⟩
        have q := p m' G' H' (.ref (m' h.length)) ((mx_ex (p := x)).trans e1 (by rw [hN]; omega)) e2 e3 (.ref (by omega))
        rw [e1 h.length (by rw [hN]; omega), mx_new] at q
        exact q
      · exact p.elim
  have r2 : Vals (V.ref x :: vs) (Value.ref x :: us) := .cons rfl r
  have hl : (Value.ref x :: us).length = ps.length := by rw [← r2.length]; exact F.ar _ _ _ _ hsp
  have hbd := hb _ (Value.ref x :: us) I2.kIn (by rw [List.append_nil]; exact hl)
  rw [List.append_nil] at hbd
  subst hx hd
  refine wpAny_call (make_map (f := g) I.kIn M.makes M.init (beq_iff_eq.mp M.fn) (codeAny_mono (F.go _ X.stack _ _ ⟨Value.ref (s.heap.objs.size + 1) :: us, []⟩ (Value.ref (s.heap.objs.size + 1) :: us) _ _ _ (hr.make C us []) (make_guards hg)
    (I2.env0.make C us []) hbd r2 hsp) fun r s' hq' => ?_))
  cases r with
  | error e => exact tk e s' (XE.of_call I2 (fun _ _ _ z => z) hq')
  | ok fl =>
    cases fl with
    | ret u =>
      obtain ⟨v, H', I3, rv, ev, q3⟩ := I2.after hq'
      subst ev
      exact ⟨rv, ⟨V.ref (s.heap.objs.size + 1), H', I3, rfl, q3⟩⟩
    | next => exact False.elim hq'
    | brk => exact False.elim hq'
    | cont => exact False.elim hq'
theorem I_new {c : String} {x : Str} {C g : Addr} {p pos : Pos} {e : Expr} {es : List Expr} {cs : List E} (hcl : GroC cl) (M : Mk X.K C g) (F : Cal X.prog X.w X.K X.mg X.base CT cl k (.m c "__init__") g) (ct : CT.ins c C) (hr : Room (k + 1) X.A) (hgd : X.A.guards = some []) (tk : Takes X W) (hg : Gl X x) (hm : X.mg x = some (.ref C))
    (ha : PA X (e :: es) (tA X.K CT cl W cs)) (hdb : (x == ("__debug__" : Str)) = false) (he : starEach (e :: es) X.env = (false, eval e X.env) :: starEach es X.env) (hpl : (backTo pos (starEach es X.env)).any (·.1) = false) :
    PE X (.Call (.Name x p) (e :: es) [] pos) (tE X.K CT cl W (.new c cs)) := by
  refine ⟨fun pins s σ H Q I ⟨m, G, h, ρ, R, sr, q⟩ => ?_⟩
  simp only [ev] at q
  refine wpAny_Call_Name_kw (ld_glob I hg hm ?_ hdb)
  refine PySem.W.callWith_K (h₀ := X.base) I.ok.mod.kin M.kp (thn (ha.run pos pins s σ H _ I (tA_first (Q1 := fun vs H1 => ∃ m1 G1 h1 pvs, HR X.K CT m1 G1 H1 h1 ∧ RelL X.K m1 h1.length G1 pvs vs ∧ Post X.K CT (Rel X.K) W σ m1 G1 h1.length Q ((cl (.m c "__init__") (.ref h1.length :: pvs) (h1 ++ [.ins c []])).bind fun r h2 => if r = .non then .ok (.ref h1.length) h2 else .bad)) hcl R sr q
    fun x v h1 m1 G1 H1 _ _ _ R1 _ rl q1 => ⟨m1, G1, h1, x, R1, rl, q1⟩)) fun us s1 ⟨vs, H1, I1, r, m1, G1, h1, pvs, R1, rl, q1⟩ => ⟨I1.kIn, ?_⟩) he hpl
  exact run_new M F ct hr hgd tk I1 r R1 rl q1 (hcl _ _ _)
end
end Mi
set_option Elab.async false
set_option linter.all false
set_option maxRecDepth 100000
namespace Mi
open PySem PySem.Spec PyProof.Rows L2
section
variable {nh : NestedKey → Int}
/-- all classes; none has an attribute f -/
def naAllB (K : PySem.W.Frag) (ins : List String) (f : String) : Bool := ins.all fun c => (He.Fa.cls (SO c)).ok K && (He.Fa.noat (SO c) (SO f)).ok K
variable {tb : List (Addr × Str)} {gh : List GF}
theorem naAllB_ok {K : PySem.W.Frag} {ins exc : List String} {f : String} (h : naAllB K ins f = true) : ∀ c C, (CTm ins exc K tb gh nh).ins c C → Cls K C ∧ NoAttr K C (SO f) := by
  unfold naAllB at h
  rw [List.all_eq_true] at h
  rintro c C ⟨h1, rfl⟩
  have q := h c h1
  rw [Bool.and_eq_true] at q
  exact ⟨He.cls_ok q.1, He.noat_ok q.2⟩
def insTB (K : PySem.W.Frag) (c : String) : Bool := (He.Fa.cls (SO c)).ok K && (decide (PySem.W.findIn K (.ref (gaS K c)) "__class__" = some (some (.builtin "object.__class__"))) && (decide (PySem.W.specialIn K (.builtin "object.__class__") "__get__" = some (some (.builtin "getset_descriptor.__get__"))) && (decide (PySem.W.takesIn K (.builtin "object.__class__") = some true) && decide (PySem.W.mroIn K (gaS K c) (.type "object") = some true))))
theorem insTB_ok {K : PySem.W.Frag} {c : String} (h : insTB K c = true) : InsT K (gaS K c) := by
  unfold insTB at h
  simp only [Bool.and_eq_true, decide_eq_true_eq] at h
  obtain ⟨h1, h2, h3, h4, h5⟩ := h
  exact ⟨He.cls_ok h1, h2, h3, h4, h5⟩
def insAllB (K : PySem.W.Frag) (ins : List String) : Bool := ins.all fun c => insTB K c
theorem insAllB_ok {K : PySem.W.Frag} {ins exc : List String} (h : insAllB K ins = true) : ∀ c C, (CTm ins exc K tb gh nh).ins c C → InsT K C := by
  unfold insAllB at h
  rw [List.all_eq_true] at h
  rintro c C ⟨h1, rfl⟩
  exact insTB_ok (h c h1)
section
variable {P : Program} {w : World} {K : PySem.W.Frag} {mg : Str → Option Value} {base : Heap} {ins exc : List String} {cl : Cl} {k : Nat} {m : String}
/-- the classes that have a method m -/
theorem mto_nil : Mto P w K mg base (CTm ins exc K tb gh nh) cl k m [] := ⟨fun c h => nomatch h⟩
theorem mto_cons {c : String} {cs : List String} (h1 : Cls K (gaS K c)) (h2 : Meth K (gaS K c) (Str.ofString m) (He.ma K (gaS K c) (SO m))) (F : Cal P w K mg base (CTm ins exc K tb gh nh) cl k (.m c m) (He.ma K (gaS K c) (SO m))) (M : Mto P w K mg base (CTm ins exc K tb gh nh) cl k m cs) : Mto P w K mg base (CTm ins exc K tb gh nh) cl k m (c :: cs) :=
  ⟨fun d hd D hD => by
    rcases List.mem_cons.mp hd with rfl | hd
    · obtain ⟨_, rfl⟩ := hD
      exact ⟨_, h1, h2, F⟩
    · exact M.ex d hd D hD⟩
end
end
end Mi
set_option Elab.async false
set_option linter.all false
set_option maxRecDepth 100000
namespace Mi
open PySem PySem.Spec PyProof.Rows L2
section
variable {X : Cx} {CT : Cts} {W : WX}
end
end Mi
set_option Elab.async false
set_option linter.all false
set_option maxRecDepth 100000
namespace Mi
open PySem PySem.Spec PyProof.Rows L2
/-- the keys of the entries -/
def KeysAre (es : Array DictEntry) (ks : List V) : Prop := es.size = ks.length ∧ ∀ (i : Nat) (x : V), ks[i]? = some x → ∃ en : DictEntry, es[i]? = some en ∧ L2.RelV x en.key
section
variable {P : Program} {w : World} {K : PySem.W.Frag} {tg : Expr} {d : Addr} {es : Array DictEntry} {n : Nat} {ks : List V}
end
/-- the keys, as values -/
def keysV (kvs : List (PV × PV)) : List V := kvs.map fun p => match p.1 with
  | .str s => .str (S2 s)
  | _ => .non
theorem gd_keys {K : PySem.W.Frag} : ∀ {es : List DictEntry} {kvs : List (PV × PV)}, gdEs K es kvs = true → es.length = (keysV kvs).length ∧ ∀ (i : Nat) (x : V), (keysV kvs)[i]? = some x → ∃ en : DictEntry, es[i]? = some en ∧ L2.RelV x en.key
  | [], [], _ => ⟨rfl, fun i x e => by simp [keysV] at e⟩
  | [], _ :: _, h => by simp [gdEs] at h
  | e :: r, [], h => by simp [gdEs] at h
  | e :: r, (k, v) :: t, h => by
    cases k with
    | str k =>
      rw [gdEs] at h
      split at h
      · rename_i x tk ek
        simp only [Bool.and_eq_true, decide_eq_true_eq] at h
        obtain ⟨⟨h1, h2⟩, h3⟩ := h
        obtain ⟨i1, i2⟩ := gd_keys h3
        refine ⟨by simp [keysV] at i1 ⊢; exact i1, fun i x e0 => ?_⟩
        cases i with
        | zero =>
          simp [keysV] at e0
          subst e0
          exact ⟨e, rfl, by rw [ek, h1]; exact ⟨_, rfl⟩⟩
        | succ i =>
          obtain ⟨en, a, b⟩ := i2 i x (by simpa [keysV] using e0)
          exact ⟨en, by simpa using a, b⟩
      · cases h
    | _ => simp [gdEs] at h
theorem GDi.keys {K : PySem.W.Frag} {w : World} {a : Addr} {kvs : List (PV × PV)} (D : GDi K w a kvs) : ∃ es n, KDict K w a es n ∧ KeysAre es (keysV kvs) ∧ gdEs K es.toList kvs = true := by
  obtain ⟨es, n, kd⟩ := D.kd
  have h := D.ck
  unfold gdB at h
  rw [kd.at_] at h
  have q := gd_keys h
  exact ⟨es, n, kd, ⟨by simpa using q.1, fun i x e => by
    obtain ⟨en, a, b⟩ := q.2 i x e
    exact ⟨en, by simpa using a, b⟩⟩, h⟩
section
variable {X : Cx} {CT : Cts} {cl : Cl} {W : WX} {tg : Expr} {pos p : Pos} {x : Str} {a : Addr}
end
section
variable {X : Cx} {CT : Cts} {cl : Cl} {W : WX} {e : Expr} {c : E} {pos p : Pos}
end
def flatE : List (E × E) → List E
  | [] => []
  | (a, b) :: r => a :: b :: flatE r
section
variable {X : Cx} {CT : Cts} {cl : Cl} {W : WX} {pos : Pos}
def trsOf (K : PySem.W.Frag) (CT : Cts) (cl : Cl) (W : WX) (cps : List (E × E)) : List (TE × TE) := cps.map fun p => (tE K CT cl W p.1, tE K CT cl W p.2)
theorem D_nil : PPs X pos [] [] (trsOf X.K CT cl W []) := pps_nil
theorem D_cons {k v : Expr} {ks : List (Option Expr)} {vs : List Expr} {a b : E} {cps : List (E × E)} (hk : PE X k (tE X.K CT cl W a)) (hv : PE X v (tE X.K CT cl W b)) (hr : PPs X pos ks vs (trsOf X.K CT cl W cps)) : PPs X pos (some k :: ks) (v :: vs) (trsOf X.K CT cl W ((a, b) :: cps)) := pps_cons hk hv hr
inductive RelP (K : PySem.W.Frag) (m : Nat → Addr) (N : Nat) (G : Hp) : List PV → List (V × V) → Prop
  | nil : RelP K m N G [] []
  | cons {a b : PV} {x y : V} {r : List PV} {t : List (V × V)} (h1 : Rel K m N G a x) (h2 : Rel K m N G b y) (h3 : RelP K m N G r t) : RelP K m N G (a :: b :: r) ((x, y) :: t)
theorem tP_first {γ δ : Type} {rel2 : (Nat → Addr) → Nat → Hp → γ → δ → Prop} {Q : δ → Hp → Prop} {σ : L2.St} {ρ : Mi.Env} (hc : GroC cl) : ∀ (cps : List (E × E)) {Q1 : List (V × V) → Hp → Prop} {f : List PV → PH → R γ} {m : Nat → Addr} {G H : Hp} {h : PH}, HR X.K CT m G H h → SR X.K m h.length G ρ σ →
    Post X.K CT rel2 W σ m G h.length Q ((evs cl (flatE cps) ρ h).bind f) →
    (∀ x v h1 m1 G1 H1, Ex m m1 h.length → Sub G G1 → h.length ≤ h1.length → HR X.K CT m1 G1 H1 h1 → SR X.K m1 h1.length G1 ρ σ → RelP X.K m1 h1.length G1 x v → Post X.K CT rel2 W σ m1 G1 h1.length Q (f x h1) → Q1 v H1) → tPairs (trsOf X.K CT cl W cps) σ H Q1
  | [], Q1, f, m, G, H, h, R, s, p, k => by
    simp only [flatE, evs, bind_ok] at p
    exact k _ _ h m G H Ex.refl Sub.refl (Nat.le_refl _) R s .nil p
  | (a, b) :: cps, Q1, f, m, G, H, h, R, s, p, k => by
    have p' : Post X.K CT rel2 W σ m G h.length Q ((ev cl a ρ h).bind fun x h1 => (ev cl b ρ h1).bind fun y h2 => (evs cl (flatE cps) ρ h2).bind fun xs h3 => f (x :: y :: xs) h3) := by
      have e : (evs cl (flatE ((a, b) :: cps)) ρ h).bind f = ((ev cl a ρ h).bind fun x h1 => (ev cl b ρ h1).bind fun y h2 => (evs cl (flatE cps) ρ h2).bind fun xs h3 => f (x :: y :: xs) h3) := by
        simp only [flatE, evs]
        cases ev cl a ρ h with
        | ok x h1 =>
          simp only [bind_ok]
          cases ev cl b ρ h1 with
          | ok y h2 =>
            simp only [bind_ok]
            cases evs cl (flatE cps) ρ h2 <;> rfl
          | _ => rfl
        | _ => rfl
      rw [← e]
      exact p
    show tE X.K CT cl W a σ H fun x H1 => tE X.K CT cl W b σ H1 fun y H2 => tPairs (trsOf X.K CT cl W cps) σ H2 fun ps H3 => Q1 ((x, y) :: ps) H3
    exact tE_first hc R s p' fun x v h1 m1 G1 H1 x1 g1 l1 R1 s1 r1 q1 => tE_first hc R1 s1 q1 fun y u h2 m2 G2 H2 x2 g2 l2 R2 s2 r2 q2 =>
      tP_first hc cps (f := fun xs h3 => f (x :: y :: xs) h3) R2 s2 q2 fun xs vs h3 m3 G3 H3 x3 g3 l3 R3 s3 r3 q3 =>
        k _ _ h3 m3 G3 H3 (x1.trans (x2.trans x3 l2) l1) (g1.trans (g2.trans g3)) (Nat.le_trans l1 (Nat.le_trans l2 l3)) R3 s3
          (.cons ((r1.mono x2 l2 g2).mono x3 l3 g3) (r2.mono x3 l3 g3) r3) q3
theorem relP_kvs {K : PySem.W.Frag} {m : Nat → Addr} {N : Nat} {G : Hp} : ∀ {xs : List PV} {ps : List (V × V)}, RelP K m N G xs ps → ∀ {kvs : List (PV × PV)}, kvsOf xs = some kvs → (kvs.all fun p => keyOk p.1) = true → ∃ ks : List (Key × V), ps = ks.map (fun kv => (kV kv.1, kv.2)) ∧ RelD K m N G kvs ks
  | _, _, .nil, kvs, e, _ => by
    simp [kvsOf] at e
    subst e
    exact ⟨[], rfl, trivial⟩
  | _, _, .cons (a := a) (b := b) h1 h2 h3, kvs, e, ok => by
    rw [kvsOf] at e
    cases q : kvsOf _ with
    | none => rw [q] at e; simp at e
    | some t =>
      rw [q] at e
      simp at e
      subst e
      rw [List.all_cons, Bool.and_eq_true] at ok
      obtain ⟨ks, e1, e2⟩ := relP_kvs h3 q ok.2
      obtain ⟨g, rfl, hk⟩ := relK_of h1 ok.1
      exact ⟨(g, _) :: ks, by rw [e1]; rfl, hk, h2, e2⟩
theorem relD_all {K : PySem.W.Frag} {m : Nat → Addr} {N : Nat} {G : Hp} : ∀ {more : List (PV × PV)} {ms : List (Key × V)} {kvs : List (PV × PV)} {ks : List (Key × V)}, RelD K m N G more ms → RelD K m N G kvs ks → RelD K m N G (putAll kvs more) (mergeK ks ms)
  | [], [], _, _, _, r => r
  | (k, x) :: t, (g, v) :: u, kvs, ks, ⟨h1, h2, h3⟩, r => by
    rw [putAll]
    show RelD K m N G (putAll (Mi.putK k x kvs) t) (mergeK (L2.putK ks g v) u)
    exact relD_all h3 (relD_put h1 h2 r)
theorem I_dsp {keys : List (Option Expr)} {values : List Expr} {es : List E} {cps : List (E × E)} (hcl : GroC cl) (D : PPs X pos keys values (trsOf X.K CT cl W cps)) (he : es = flatE cps) (hall : keys.all (·.isSome) = true) (hl : keys.length = values.length) (h0 : keys ≠ []) (h15 : keys.length ≤ 15) :
    PE X (.Dict keys values pos) (tE X.K CT cl W (.dsp es)) := by
  subst he
  refine PEimp (pe_disp D hall hl h0 h15) fun σ H Q ⟨m, G, h, ρ, R, s, q⟩ pp hp => ?_
  simp only [ev] at q
  have R' := R.new (o := .dic []) hp (keep_upd hp) ⟨[], upd_same, trivial⟩ rfl
  have hN : (h ++ [PO.dic []]).length = h.length + 1 := by simp
  have s' : SR X.K (mx m h.length pp) (h ++ [PO.dic []]).length G ρ σ := s.mono mx_ex (by rw [hN]; omega) Sub.refl
  refine tP_first hcl cps R' s' (Post.later q mx_ex (by rw [hN]; omega) Sub.refl) fun xs ps h1 m1 G1 H1 x1 g1 l1 R1 s1 r1 q1 => ?_
  split at q1
  · rename_i kvs ek
    split at q1
    · rename_i ok
      simp only [Bool.and_eq_true, decide_eq_true_eq] at ok
      obtain ⟨⟨ok1, ok2⟩, ok3⟩ := ok
      obtain ⟨ks, e1, e2⟩ := relP_kvs r1 ek ok1
      have em : m1 h.length = pp := by rw [x1 h.length (by rw [hN]; omega), mx_new]
      obtain ⟨ks0, hH, r0⟩ := R1.dic ok3
      have k0 : ks0 = [] := by
        cases ks0 with
        | nil => rfl
        | cons a t => exact r0.elim
      subst k0
      rw [em] at hH
      refine ⟨hH, ks, e1, by rw [← relD_len e2]; exact ok2, ?_⟩
      have z := R1.put (u := .dK (mergeK [] ks)) ok3 rfl (o' := .dic (putAll [] kvs)) rfl fun H' e' => ⟨_, e', relD_all e2 trivial⟩
      rw [em] at z
      refine q1 m1 G1 _ (.ref pp) Ex.refl Sub.refl z ?_
      have zz : Rel X.K m1 (h1.set h.length (.dic (putAll [] kvs))).length G1 (.ref h.length) (.ref (m1 h.length)) := .ref (by rw [List.length_set]; rw [hN] at l1; omega)
      rw [em] at zz
      exact zz
    · exact q1.elim
  · exact q1.elim
end
section
variable {X : Cx} {CT : Cts} {W : WX}
end
end Mi
set_option Elab.async false
set_option linter.all false
set_option maxRecDepth 100000
set_option maxHeartbeats 4000000
namespace PySem
namespace HandSPX
open Builtin Builtin.ObjectAttr
section
variable {M : Model} {A : Around} {E : Value → Shared → Prop} {hp : Heap} {gs : Array GenState} {dr : Drawn} {tk : Nat} {osx : OsState}
variable {nm q : Str} {C N : Addr} {bs bm bmB : List Value} {hdct : Bool} {sn : List Str} {sub : List Value} {ab : Bool} {col : Option Bool} {dd : Option Addr} {k0 k1 k2 k3 k5 : Option Value} {B newId initId : String}
end
section
variable {prg : Program} {wd : World} {A : Around} {E : Value → Shared → Prop} {RR : Result → Shared → Prop} {hp : Heap} {gs : Array GenState} {dr : Drawn} {tk : Nat} {osx : OsState}
variable {nm q : Str} {C N : Addr} {bs bm bmB : List Value} {hdct : Bool} {sn : List Str} {sub : List Value} {ab : Bool} {col : Option Bool} {dd : Option Addr} {k0 k1 k2 k3 k5 : Option Value} {B newId initId : String}
end
end HandSPX
end PySem
set_option Elab.async false
set_option linter.all false
set_option maxRecDepth 100000
namespace Mi
open PySem PySem.Spec PyProof.Rows L2
section
variable {X : Cx} {CT : Cts} {cl : Cl} {W : WX} {e : Expr} {c : E} {cs : List E} {pos p : Pos}
/-- one more object that never changes: an error -/
theorem HR.exn {K : PySem.W.Frag} {m : Nat → Addr} {G H : Hp} {h : PH} {n : String} {C a : Addr} {d : Option Addr} {fs : List (String × PV)} (R : HR K CT m G H h) (ct : CT.exc n C) (na : H a = none) (hf : ExF K m h.length G fs d) :
    HR K CT (mx m h.length a) (upd G a (EXO (.ref C) d a)) (upd H a (EXO (.ref C) d a)) (h ++ [.exn n fs]) ∧ Sub G (upd G a (EXO (.ref C) d a)) ∧ Rel K (mx m h.length a) (h ++ [PO.exn n fs]).length (upd G a (EXO (.ref C) d a)) (.ref h.length) (.ref a) := by
  obtain ⟨R2, sg⟩ := R.newT (u := EXO (.ref C) d a) na
  refine ⟨R2.newF ⟨C, d, ct, upd_same, hf.mono mx_ex (Nat.le_succ _) sg⟩ rfl, sg, ?_⟩
  have z : Rel K (mx m h.length a) (h ++ [PO.exn n fs]).length (upd G a (EXO (.ref C) d a)) (.ref h.length) (.ref (mx m h.length a h.length)) := .ref (by simp)
  rw [mx_new] at z
  exact z
/-- an own __init__ called by its keyword -/
def KB1 (fd : FuncData) (f : Str) : Prop := ∀ (s : Shared) (a u : Value), BindsTo s fd ⟨[a], [(f, u)]⟩ [(("self" : Str), a), (f, u)]
structure LowK (P : Program) (w : World) (K : PySem.W.Frag) (mg : Str → Option Value) (base : Heap) (x f : Str) (C : Addr) : Prop where
  gC : mg x = some (.ref C)
  ox : OexC K C
  ini : ∃ (g : Addr) (fd : FuncData), PySem.W.findIn K (.ref C) "__init__" = some (some (.ref g)) ∧ PySem.W.typeIn K (.ref g) = some (.type "function") ∧ FnOk P w K mg base CX0 1 g fd ["self", f] (spInit K C f) ∧ KB1 fd f
end
end Mi
set_option Elab.async false
set_option linter.all false
set_option maxRecDepth 100000
set_option maxHeartbeats 1000000
namespace Mi
open PySem PySem.Spec PyProof.Rows L2 LamX
def Cts.push (CT : Cts) (y : GF) : Cts := { CT with gh := y :: CT.gh }
section
variable {K : PySem.W.Frag} {CT : Cts} {m : Nat → Addr} {N : Nat} {G H H1 : Hp} {h : PH} {y : GF}
theorem HR.pop (R : HR K (CT.push y) m G H h) : HR K CT m G H h :=
  ⟨fun i o e => by
    have q := R.obj i o e
    cases o <;> exact q, R.inj, R.sub, R.dj, ⟨fun x hx => R.xt.gh x (List.mem_cons_of_mem _ hx), R.xt.tb, R.xt.gt⟩⟩
theorem HR.top (R : HR K (CT.push y) m G H h) : GhOk K m h.length G y := R.xt.gh y (List.mem_cons_self ..)
theorem Post.push {α β : Type} {rel : (Nat → Addr) → Nat → Hp → α → β → Prop} {W : WX} {σ : L2.St} {Q : β → Hp → Prop} {r : R α} (p : Post K CT rel W σ m G N Q r) : Post K (CT.push y) rel W σ m G N Q r := by
  cases r with
  | ok a h' => exact fun m' G' H' b e1 e2 e3 e4 => p m' G' H' b e1 e2 e3.pop e4
  | exc x h' => exact fun m' G' H' cls d e1 e2 e3 e4 => p m' G' H' cls d e1 e2 e3.pop e4
  | bad => exact p
open Classical in
/-- the code objects that stand in the heap are known -/
noncomputable def codes (G H : Hp) : Hp := fun b => if ∃ q, H b = some (CodeO b q) then H b else G b
theorem HR.tabs (R : HR K CT m G H h) : Tabs CT.tbs H := fun p hp => by
  obtain ⟨_, ps, h1, h2, h3⟩ := R.xt.tb p hp
  exact ⟨ps, h1, h2, fun pos cv e => let ⟨c, e1, e2⟩ := h3 pos cv e; ⟨c, e1, R.sub _ _ e2⟩⟩
theorem code_ne {c : Addr} {q : Str} {ps : Array Value} : CodeO c q ≠ .tbl ps := fun z => by
  have z' : HO.ext _ = HO.tbl ps := z
  cases z'
theorem dit_code {nh : NestedKey → Int} {a : Addr} {xs : List (NestedKey × Addr × V)} {q : Str} : DitO nh a xs ≠ CodeO a q := fun z => by
  unfold DitO CodeO at z
  injection z with z
  let hp : Heap := { objs := Array.replicate (a + 1) { cls := .none, data := .fields #[.none, .str q 0] } }
  have g : hp.get? a = some { cls := .none, data := .fields #[.none, .str q 0] } := (Heap.get?_eq_some _ _ _).mpr ⟨by simp [hp], rfl⟩
  have y := (congrFun z hp).mpr ⟨_, #[.none, .str q 0], 0, g, rfl, rfl⟩
  obtain ⟨_, _, us, _, o, es, ep, e1, _, e3, _⟩ := y
  rw [g] at e1
  cases e1
  cases e3
theorem nk_code (R : HR K CT m G H h) {i : Nat} {o : PO} (e : h[i]? = some o) (k : nk o = true) {q : Str} : H (m i) ≠ some (CodeO (m i) q) := by
  have z := R.obj i o e
  have nx : ∀ u : HO, (∀ f, u ≠ .ext f) → some u ≠ some (CodeO (m i) q) := fun u hu z => by
    have z' : u = HO.ext _ := Option.some.inj z
    exact hu _ z'
  cases o with
  | lst xs => obtain ⟨vs, z, _⟩ := z; rw [z]; exact nx _ fun f z => by cases z
  | frz xs => cases k
  | ldc xs => cases k
  | ldt xs => cases k
  | dic xs => obtain ⟨vs, z, _⟩ := z; rw [z]; exact nx _ fun f z => by cases z
  | dit xs => obtain ⟨vs, z, _⟩ := z; rw [z]; exact fun z => dit_code (Option.some.inj z)
  | ins c fs => obtain ⟨C, dx, gs, _, z, _⟩ := z; rw [z]; exact nx _ fun f z => by cases z
  | exn c fs => cases k
  | lam => cases k
/-- the heap where the lambda was made -/
theorem HR.made (R : HR K CT m G H h) (eN : ExtN H H1) (T1 : Tabs CT.tbs H1) : HR K CT m (codes G H1) H1 h ∧ Sub G (codes G H1) := by
  have s1 : Sub G H1 := fun b o e => eN b o (R.sub b o e) fun ps z => R.xt.gt b ps (by rw [e, z])
  have sg : Sub G (codes G H1) := fun b o e => by
    unfold codes
    split
    · exact s1 b o e
    · exact e
  have cd : ∀ {c : Addr} {q : Str}, H1 c = some (CodeO c q) → codes G H1 c = some (CodeO c q) := fun {c q} e => by
    unfold codes
    rw [if_pos ⟨q, e⟩]
    exact e
  have st : ∀ i o, h[i]? = some o → nk o = true → H1 (m i) = H (m i) := fun i o e k => by
    cases z : H (m i) with
    | none => exact absurd z (R.nn e k)
    | some u => exact eN _ u z fun ps zz => R.nt e k (by rw [z, zz])
  refine ⟨⟨fun i o e => (R.obj i o e).keep Ex.refl (Nat.le_refl _) sg (st i o e), R.inj, fun b o e => ?_, fun i o e k => ?_, ⟨fun x hx => ?_, fun p hp => ?_, fun b ps e => ?_⟩⟩, sg⟩
  · unfold codes at e
    split at e
    · exact e
    · exact s1 b o e
  · unfold codes
    rw [if_neg]
    · exact R.dj i o e k
    · rintro ⟨q, z⟩
      rw [st i o e k] at z
      exact nk_code R e k z
  · obtain ⟨h1, h2, h3, h4⟩ := R.xt.gh x hx
    exact ⟨h1, h2, sg _ _ h3, h4.mono Ex.refl (Nat.le_refl _) sg⟩
  · obtain ⟨h0, _⟩ := R.xt.tb p hp
    obtain ⟨ps, h1, h2, h3⟩ := T1 p hp
    refine ⟨?_, ps, h1, h2, fun pos cv e => let ⟨c, e1, e2⟩ := h3 pos cv e; ⟨c, e1, cd e2⟩⟩
    unfold codes
    rw [if_neg]
    · exact h0
    · rintro ⟨q, z⟩
      rw [h1] at z
      exact code_ne (Option.some.inj z).symm
  · unfold codes at e
    split at e
    · rename_i z
      obtain ⟨q, z⟩ := z
      rw [z] at e
      exact code_ne (Option.some.inj e)
    · exact R.xt.gt b ps e
/-- .. and the lambda is in the store -/
theorem HR.lam {f c : Addr} {q : Str} {ρ : Mi.Env} {σ : L2.St} (R : HR K CT m G H h) (s : SR K m h.length G ρ σ) (eN : ExtN H H1) (T1 : Tabs CT.tbs H1) (hc : H1 c = some (CodeO c q)) :
    ∃ G1, Sub G G1 ∧ HR K (CT.push ⟨h.length, f, c, q, ρ, σ⟩) (mx m h.length f) G1 H1 (h ++ [.lam]) := by
  obtain ⟨R1, sg⟩ := R.made eN T1
  refine ⟨_, sg, ?_⟩
  have R2 : HR K CT (mx m h.length f) (codes G H1) H1 (h ++ [.lam]) := R1.newF (o := .lam) trivial rfl
  refine ⟨fun i o e => by
    have z := R2.obj i o e
    cases o <;> exact z, R2.inj, R2.sub, R2.dj, ⟨fun x hx => ?_, R2.xt.tb, R2.xt.gt⟩⟩
  rcases List.mem_cons.mp hx with rfl | hx
  · refine ⟨by simp, mx_new, ?_, s.mono mx_ex (by simp) sg⟩
    unfold codes
    rw [if_pos ⟨q, hc⟩]
    exact hc
  · exact R2.xt.gh x hx
end
/-- what its call means where n0 is its place and k its meaning -/
def tK (K : PySem.W.Frag) (CT : Cts) (W : WX) (n0 : Nat) (k : PH → R PV) : TE := fun σ H Q => ∃ m G h ρ, HR K CT m G H h ∧ SR K m h.length G ρ σ ∧ ρ[0]? = some (some (.ref n0)) ∧ Post K CT (Rel K) W σ m G h.length Q (k h)
theorem I_wk {X : Cx} {CT : Cts} {W : WX} {cl : Cl} {e : Expr} {n0 : Nat} {k : PH → R PV} (act : PE X e (tK X.K CT W n0 k)) : PE X e (tE X.K CT (clL cl n0 k) W (.wk (.v 0))) :=
  PEimp act fun σ H Q ⟨m, G, h, ρ, R, s, q⟩ => by
    simp only [ev] at q
    refine ⟨m, G, h, ρ, R, s, ?_⟩
    cases e0 : ρ[0]? with
    | none => rw [e0] at q; exact q.elim
    | some o =>
      rw [e0] at q
      cases o with
      | none => exact q.elim
      | some v =>
        have q : Post X.K CT (Rel X.K) W σ m G h.length Q (wkV n0 k [v] h) := q
        cases v with
        | ref n =>
          by_cases hn : n = n0
          · subst hn
            refine ⟨rfl, ?_⟩
            simp only [wkV, if_true] at q
            unfold grw at q
            cases z : k h with
            | ok v h1 =>
              rw [z] at q
              simp only at q
              split at q
              · exact q
              · exact q.elim
            | exc v h1 =>
              rw [z] at q
              simp only at q
              split at q
              · exact q
              · exact q.elim
            | bad =>
              rw [z] at q
              exact q.elim
          · simp only [wkV, if_neg hn] at q
            exact q.elim
        | _ => exact q.elim
abbrev toldC (P : Program) (w : World) (K : PySem.W.Frag) (mg : Str → Option Value) (base : Heap) (NN : List Str) (x : Str) (st : Stmt) (g : Addr) (cdv : Value) (A : Around) (out : List PySem.Env) (s : Shared) (H : Hp) (E : XK) : Cx :=
  cxOf (L2.CX P w) P w K mg base NN x (defScope st) g cdv A out s H E
/-- the promise of such a def -/
structure LCal (P : Program) (w : World) (K : PySem.W.Frag) (mg : Str → Option Value) (base : Heap) (CT : Cts) (cl : Cl) (k : Nat) (f : String) (x : Str) (st : Stmt) (g : Addr) (NN : List Str) (a : Str) : Prop where
  nm : NN[0]? = some a
  vs : Vis (defScope st) a
  go : ∀ (A : Around) (out : List PySem.Env) (s : Shared) (H : Hp) (E : XK) (fl : Addr) (Q : VK) (n0 : Nat) (kb : PH → R PV) (m : Nat → Addr) (G : Hp) (h : PH), Room k A → A.guards = some [] → Env0 P w K mg base A out s H →
    (∀ (cdv : Value) (W : WX) (pn : List (Addr × Obj)) (xe : Value → Shared → Prop), Takes ((toldC P w K mg base NN x st g cdv A out s H E).tr pn xe) W → ∀ p1 p2 : Pos, PE ((toldC P w K mg base NN x st g cdv A out s H E).tr pn xe) (.Call (.Name a p1) [] [] p2) (tK K CT W n0 kb)) →
    HR K CT m G H h → n0 < h.length → m n0 = fl → Post K CT (Rel K) (fun cls d _ H' => E cls d H') [] m G h.length Q (cl (.l f kb) [.ref n0] h) →
    codeAny (model P w) A (.call (.ref g) ⟨[.ref fl], []⟩) (CR (L2.CX P w) out P w H s Q E) s
theorem LCal.more {P : Program} {w : World} {K : PySem.W.Frag} {mg : Str → Option Value} {base : Heap} {CT : Cts} {cl : Cl} {j k : Nat} {f : String} {x : Str} {st : Stmt} {g : Addr} {NN : List Str} {a : Str} (L : LCal P w K mg base CT cl j f x st g NN a) (h : j ≤ k) : LCal P w K mg base CT cl k f x st g NN a :=
  ⟨L.nm, L.vs, fun A out s H E fl Q n0 kb m G h1 hr => L.go A out s H E fl Q n0 kb m G h1 (hr.mono h)⟩
section
variable {P : Program} {w : World} {K : PySem.W.Frag} {mg : Str → Option Value} {base : Heap} {CT : Cts} {cl cl0 : Cl}
theorem lcal_bad {k : Nat} {f : String} {x : Str} {st : Stmt} {g : Addr} {NN : List Str} {a : Str} (nm : NN[0]? = some a) (vs : Vis (defScope st) a) (hb : ∀ kb n0 h, cl (.l f kb) [.ref n0] h = .bad) : LCal P w K mg base CT cl k f x st g NN a :=
  ⟨nm, vs, fun A out s H E fl Q n0 kb m G h _ _ _ _ _ _ _ q => by
    rw [hb] at q
    exact q.elim⟩
/-- from its body -/
theorem lcal_run {f : String} {x a : Str} {st : Stmt} {g : Addr} {fd : FuncData} {NN : List Str} {k : Nat} {d : Fn} (F : Fun K x x st g fd) (B : L2.Binds K fd [a] []) (S : FnScope NN [a] (defScope st)) (hn : d.np = 1) (hl : d.nl = NN.length - 1) (nm : NN[0]? = some a) (vs : Vis (defScope st) a) (hcl : GroC cl0)
    (he : ∀ kb n0 h, cl (.l f kb) [.ref n0] h = d.run (clL cl0 n0 kb) [.ref n0] h)
    (hb : ∀ (cdv : Value) (A : Around) (out : List PySem.Env) (s : Shared) (H : Hp) (E : XK) (W : WX) (n0 : Nat) (kb : PH → R PV), Room k (A.deeper (envOfC x (defScope st) s.heap.objs.size g cdv)) → A.guards = some [] → Takes (toldC P w K mg base NN x st g cdv A out s H E) W →
      PassesOwn (model P w) (A.deeper (envOfC x (defScope st) s.heap.objs.size g cdv)) (envOfC x (defScope st) s.heap.objs.size g cdv) (toldC P w K mg base NN x st g cdv A out s H E).xe →
      (∀ (W : WX) (pn : List (Addr × Obj)) (xe : Value → Shared → Prop), Takes ((toldC P w K mg base NN x st g cdv A out s H E).tr pn xe) W → ∀ p1 p2 : Pos, PE ((toldC P w K mg base NN x st g cdv A out s H E).tr pn xe) (.Call (.Name a p1) [] [] p2) (tE K CT (clL cl0 n0 kb) W (.wk (.v 0)))) →
      PSs (toldC P w K mg base NN x st g cdv A out s H E) (defBody st) (tSs K CT (clL cl0 n0 kb) W d.body)) : LCal P w K mg base CT cl (k + 1) f x st g NN a := by
  refine ⟨nm, vs, fun A out s H E fl Q n0 kb m G h hr hg e0 act R lt me q => ?_⟩
  obtain ⟨oc, od, kV, doc, pm, an, cdv, ct, osl, rfl, lk, hcd⟩ := F.ex
  have inK := e0.mod.kin.keeps (fun b o e => (e0.bs b o e).1)
  have noLim := e0.mod.nolimit.keeps (fun b o e => (e0.bs b o e).1)
  have kinds : ∀ y ∈ [a].zip [Value.ref fl], (defScope st).names.lookup y.1 = some .local ∨ ((defScope st).names.lookup y.1 = some .cell ∧ ((cellsFrom (s.heap.objs.size + 1) (defScope st).names []).lookup y.1).isSome = true) := by
    rintro ⟨n, v⟩ hy
    have hn : n ∈ [a] := (List.of_mem_zip hy).1
    cases S.par n hn with
    | inl q => exact .inl q
    | inr q => exact .inr ⟨q, PySem.W.cellsFrom_some _ _ _ (.inl q)⟩
  have hbd : BindsTo s (PySem.W.fnOf x x (defArgs st) (defBody st) (defScope st) .none kV doc pm an cdv ct) ⟨[.ref fl], []⟩ ([a].zip [Value.ref fl]) := by
    have z := B s [.ref fl] inK rfl
    exact z
  refine codeAny_call_function hr.depth (inK _ _ lk) rfl S.co S.gen rfl (PySem.W.codeRec_of inK hcd) (hbd _ _ _ _ ?_)
  refine wpAny_newFunctionEnv_cells S.kind kinds fun env henv s1 z => ?_
  subst henv
  refine ⟨noLim.keeps z.toInCall.keep, codeAny_func ?_⟩
  have rv : Vals [V.ref fl] [Value.ref fl] := .cons rfl .nil
  have ht := hb cdv A out s H E (fun cls d _ H' => E cls d H') n0 kb (hr.deeper _) hg (takes_of rfl rfl rfl rfl) (passes_of rfl) fun W pn xe tk p1 p2 => I_wk (act cdv W pn xe tk p1 p2)
  have I0 := inv_start (CX := L2.CX P w) (E := E) S hr.hd e0 (us := [.ref fl]) (vs := [.ref fl]) rfl rv z
  have hq : tSs K CT (clL cl0 n0 kb) (fun cls d _ H' => E cls d H') d.body { nx := fun _ H' => Q .non H', rt := Q } (start NN [.ref fl]) H := by
    rw [he] at q
    unfold Fn.run at q
    rw [if_pos (show [PV.ref n0].length = d.np from hn.symm)] at q
    have rl : RelL K m h.length G [PV.ref n0] [V.ref fl] := by
      have z : Rel K m h.length G (.ref n0) (.ref (m n0)) := .ref lt
      rw [me] at z
      exact .cons z .nil
    refine ⟨m, G, h, [PV.ref n0].map some ++ List.replicate d.nl none, R, ?_, ?_⟩
    · unfold L2.start
      rw [hl]
      exact sr_start rl _
    · cases e : exs (clL cl0 n0 kb) d.body ([PV.ref n0].map some ++ List.replicate d.nl none) h with
      | ok fl h1 =>
        rw [e] at q
        intro m' G' H' x1 x2 R'
        cases fl with
        | nx ρ => exact fun σ _ => q m' G' H' .non x1 x2 R' .non
        | rt v => exact fun u r => q m' G' H' u x1 x2 R' r
        | bk ρ => exact q.elim
        | ct ρ => exact q.elim
        | xc y ρ => exact fun σ cls dd _ xr => q m' G' H' cls dd x1 x2 R' xr
      | exc y h1 =>
        rw [e] at q
        exact q.elim
      | bad =>
        rw [e] at q
        exact q.elim
  refine wpAny_mono (ht.run [] s1 (start NN [.ref fl]) H _ I0 hq) (fun fl s' hs => ?_) (fun e s' hs => hs)
  cases fl with
  | ret u =>
    obtain ⟨v, σ', H', J, rv, q⟩ := hs
    exact ⟨v, H', J.os, J.bare, J.base, J.hok, rv, q⟩
  | next =>
    obtain ⟨σ', H', J, q⟩ := hs
    exact ⟨V.non, H', J.os, J.bare, J.base, J.hok, rfl, q⟩
  | brk =>
    obtain ⟨_, _, _, z⟩ := hs
    exact False.elim z
  | cont =>
    obtain ⟨_, _, _, z⟩ := hs
    exact False.elim z
end
section
variable {X : Cx} {CT : Cts} {cl : Cl} {W : WX} {pins : List (Addr × Obj)} {σ : L2.St} {H HZ : Hp} {s : Shared}
theorem pe_wk {Eg : XK} {Ng : List Str} {qg : Str} {sg : Scope} {g f c' : Addr} {cdg pm ctv : Value} {params : Arguments} {body : Expr} {scope : Scope} {k n0 : Nat} {a : Str} {pn : List (Addr × Obj)} {xe : Value → Shared → Prop} {b : E} {ρ : Mi.Env} {p1 p2 : Pos}
    (I : Inv X pins σ H s) (L : LamS X.env.scope scope) (hf : s.heap.get? f = some (PySem.W.kla_obj "<lambda>" (X.env.qual ++ "<lambda>") params body scope (cloFrom X.env.cells scope.names []) pm c' ctv)) (hfn : H f = none) (hfr : f ∉ frs X.stack)
    (hbind : bindArgs (PySem.W.kla_fn "<lambda>" (X.env.qual ++ "<lambda>") params body scope (cloFrom X.env.cells scope.names []) pm (.ref c') ctv) ⟨[], []⟩ = pure [])
    (tk : Takes ((cxOf (L2.CX X.prog X.w) X.prog X.w X.K X.mg X.base Ng qg sg g cdg X.A X.stack s H Eg).tr pn xe) W) (hr : Room (k + 1) (X.A.deeper (envOfC qg sg s.heap.objs.size g cdg)))
    (hbody : ∀ (s1 : Shared) (H1 : Hp) (E : XK), Room k ((X.A.deeper (envOfC qg sg s.heap.objs.size g cdg)).deeper (lamEnv X scope s1.heap.objs.size f c')) →
      PE (lamCx X (X.A.deeper (envOfC qg sg s.heap.objs.size g cdg)) (envOfC qg sg s.heap.objs.size g cdg :: X.stack) s1 H1 E scope f c') body (tE X.K (CT.push ⟨n0, f, c', X.env.qual ++ "<lambda>", ρ, σ⟩) cl (fun cls d _ H' => E cls d H') b))
    (hN : Ng[0]? = some a) (hv : Vis sg a) (hd : (a == ("__debug__" : Str)) = false) (hcd : (a == ("__classdict__" : Str)) = false) :
    PE ((cxOf (L2.CX X.prog X.w) X.prog X.w X.K X.mg X.base Ng qg sg g cdg X.A X.stack s H Eg).tr pn xe) (.Call (.Name a p1) [] [] p2) (tK X.K (CT.push ⟨n0, f, c', X.env.qual ++ "<lambda>", ρ, σ⟩) W n0 fun h => ev cl b ρ h) := by
  refine ⟨fun pinsZ sZ σZ HZ Q IZ ⟨m, G, h, ρZ, R, sr, h0, q⟩ => ?_⟩
  obtain ⟨_, mf, gc, sm⟩ := R.top
  have hs : σZ[0]? = some (some (V.ref f)) := by
    obtain ⟨v, e1, e2⟩ := sr.2 0 _ h0
    have e3 : v = .ref (m n0) := by cases e2; rfl
    rw [e1, e3, show m n0 = f from mf]
  have hc : HZ c' = some (CodeO c' (X.env.qual ++ "<lambda>")) := R.sub _ _ gc
  refine wpAny_Call_Name_kw (thn ((pe_var (pos := p1) (i := 0) hN hv hd hcd).run pinsZ sZ σZ HZ (fun v H1 => v = .ref f ∧ H1 = HZ) IZ ⟨.ref f, hs, rfl, rfl⟩) fun u s1 ⟨v, H1, I1, r1, q1⟩ => ?_)
  obtain ⟨ev, eH⟩ := q1
  subst ev
  rw [eH] at I1
  obtain rfl : u = Value.ref f := r1
  have of1 : s1.heap.get? f = some (PySem.W.kla_obj "<lambda>" (X.env.qual ++ "<lambda>") params body scope (cloFrom X.env.cells scope.names []) pm c' ctv) := I1.base.keep f _ hf hfn hfr (fun z => nomatch (show f ∈ ([] : List Addr) from z))
  refine PySem.W.callWith_F0 ⟨_, _, _, _, of1⟩ ?_
  have un : Un (frs X.stack) [] H HZ s.heap s1.heap := I1.base
  obtain ⟨⟨oc, vs, t, hoc, hdc, hvc⟩, _, _⟩ := I1.hok c' _ hc
  have rc : codeAny (model X.prog X.w) (X.A.deeper (envOfC qg sg s.heap.objs.size g cdg)) (.call (.ref f) ⟨[], []⟩) (CR (L2.CX X.prog X.w) (envOfC qg sg s.heap.objs.size g cdg :: X.stack) X.prog X.w HZ s1 Q fun cls d H' => W cls d σZ H') s1 := by
    refine PySem.W.kla_callFunE hr.depth of1 rfl L.co L.gen rfl ⟨c', oc, vs, t, rfl, hoc, hdc, hvc⟩ ?_
    rw [hbind]
    refine wpAny_pure (wpAny_newFunctionEnv (fun y hy => (L.own y hy).2) (fun y hy => absurd hy (by simp)) (fun h₁ hns hsb => ⟨I1.nolimit.fresh _ hsb, ?_⟩) L.kind)
    show codeAny _ _ (.expr body (lamEnv X scope s1.heap.objs.size f c')) _ _
    have kp : ∀ b o, s1.heap.get? b = some o → h₁.get? b = some o := fun b o e => hsb.extBut b o (Nat.ne_of_lt (Heap.lt_size e)) (Heap.get?_push_of_some _ e)
    have J : Inv (lamCx X (X.A.deeper (envOfC qg sg s.heap.objs.size g cdg)) (envOfC qg sg s.heap.objs.size g cdg :: X.stack) s1 HZ (fun cls d H' => W cls d σZ H') scope f c') [] σ HZ { s1 with heap := h₁, toks := s1.toks + ([] : List (Str × Value)).length } :=
      lam_start2 I L I1.env0 hr.hd un hns kp
    refine PySem.W.kla_codeExpr (wpAny_mono ((hbody s1 HZ (fun cls d H' => W cls d σZ H') (hr.deeper _)).run [] _ _ HZ Q J ⟨m, G, h, ρ, R, sm, q.slots fun _ _ _ z => z⟩) (fun v s' hq => ?_) fun e s' hq => hq)
    obtain ⟨w', H', J', rv, q⟩ := hq
    exact ⟨w', H', J'.os, J'.bare, J'.base, J'.hok, rv, q⟩
  refine wpAny_call (codeAny_mono rc fun r s' hq => ?_)
  cases r with
  | error e => exact tk e s' (XE.of_call I1 (fun _ _ _ z => z) hq)
  | ok fl =>
    cases fl with
    | ret u => exact I1.after hq
    | next => exact False.elim hq
    | brk => exact False.elim hq
    | cont => exact False.elim hq
/-- x(lambda: body) -/
theorem I_lam {f : String} {x a : Str} {st : Stmt} {g c P : Addr} {k : Nat} {NN : List Str} {params : Arguments} {body : Expr} {scope : Scope} {b : E} {p lpos pos : Pos} (hcl : GroC cl) (L : ∀ y, LCal X.prog X.w X.K X.mg X.base (CT.push y) cl (k + 2) f x st g NN a) (hr : Room (k + 2) X.A) (hgd : X.A.guards = some []) (tk : Takes X W)
    (hg : Gl X x) (hm : X.mg x = some (.ref g)) (hk : PySem.W.keepIn X.K (.ref g) = true) (TB : TabB X.base X.mg c P) (hcode : X.env.code = .ref c) (hmT : (P, X.env.qual ++ "<lambda>") ∈ CT.tbs) (hu : ∀ p ∈ CT.tbs, p.1 = P → p.2 = X.env.qual ++ "<lambda>")
    (S : LamS X.env.scope scope) (hdef : defaultsOf params X.env = ([], []))
    (hbind : ∀ (q : Str) (cl : List (Str × Addr)) (pm cv ctv : Value), bindArgs (PySem.W.kla_fn "<lambda>" q params body scope cl pm cv ctv) ⟨[], []⟩ = pure [])
    (hbody : ∀ (y : GF) (A : Around) (outer : List PySem.Env) (s : Shared) (H : Hp) (E : XK) (f c' : Addr), Room k (A.deeper (lamEnv X scope s.heap.objs.size f c')) → A.guards = some [] → PE (lamCx X A outer s H E scope f c') body (tE X.K (CT.push y) cl (fun cls d _ H' => E cls d H') b))
    (hdb : (x == ("__debug__" : Str)) = false) (hd : (a == ("__debug__" : Str)) = false) (hcd : (a == ("__classdict__" : Str)) = false) :
    PE X (.Call (.Name x p) [.Lambda params body scope lpos] [] pos) (tE X.K CT cl W (.lam f b)) := by
  refine ⟨fun pins s σ H Q I ⟨m, G, h, ρ, R, sr, q⟩ => ?_⟩
  simp only [ev] at q
  refine wpAny_Call_Name_kw (ld_glob I hg hm ?_ hdb)
  refine PySem.W.callWith_K (h₀ := X.base) I.ok.mod.kin hk ?_ (by rfl) (by rfl)
  show wpAny _ _ (spliced ((false, eval (.Lambda params body scope lpos) X.env) :: backTo pos (starEach [] X.env))) _ _ s
  refine Calls.spliced_cons (lam_make2 I TB hcode hmT hu R.tabs hdef (S.has I.ok) fun f' c' pm' ctv H1 s' I1 eN T1 hf hfn hfr hco => ?_)
  refine Calls.spliced_nil ⟨I1.kIn, ?_⟩
  obtain ⟨G1, sg, R1⟩ := R.lam (f := f') (ρ := ρ) (σ := σ) sr eN T1 hco
  have LY := L ⟨h.length, f', c', X.env.qual ++ "<lambda>", ρ, σ⟩
  have rc : codeAny (model X.prog X.w) X.A (.call (.ref g) ⟨[.ref f'], []⟩) (CR (L2.CX X.prog X.w) X.stack X.prog X.w H1 s' Q fun cls d H' => W cls d σ H') s' := by
    refine LY.go X.A X.stack s' H1 _ f' Q h.length (fun h1 => ev cl b ρ h1) _ G1 _ hr hgd I1.env0 (fun cdv W pn xe tk p1 p2 => ?_) R1 (by simp) mx_new ?_
    · exact pe_wk (k := k) I1 S hf hfn hfr (hbind _ _ _ _ _) tk (hr.deeper _) (fun s1 H2 E r => hbody _ _ _ s1 H2 E f' c' r hgd) LY.nm LY.vs hd hcd
    · exact ((q.slots fun _ _ _ z => z).later mx_ex (by simp) sg).push
  refine wpAny_call (codeAny_mono rc fun r s2 hq => ?_)
  cases r with
  | error e => exact tk e s2 (XE.of_call I1 (fun _ _ _ z => z) hq)
  | ok fl =>
    cases fl with
    | ret u => exact I1.after hq
    | next => exact False.elim hq
    | brk => exact False.elim hq
    | cont => exact False.elim hq
end
section
variable {X : Cx}
end
end Mi
set_option Elab.async false
set_option linter.all false
set_option maxRecDepth 100000
set_option maxHeartbeats 1000000
namespace Mi
open PySem PySem.Spec PyProof.Rows L2 LamX
def codeV (K : PySem.W.Frag) (f : Addr) : Value := match K.lookup f with
  | some ⟨_, _, .func fd, _⟩ => fd.code
  | _ => .none
def cOf (K : PySem.W.Frag) (f : Addr) : Addr := match codeV K f with
  | .ref c => c
  | _ => 0
/-- the table of its code -/
def pOf (K : PySem.W.Frag) (f : Addr) : Addr := match K.lookup (cOf K f) with
  | some ⟨_, _, .fields vs, _⟩ => (match (vs[11]? : Option Value) with
    | some (.ref P) => P
    | _ => 0)
  | _ => 0
/-- by computing: it is known, its table is not -/
def mkB (K : PySem.W.Frag) (f : Addr) : Bool := (match codeV K f with
  | .ref _ => true
  | _ => false) && PySem.W.codeHdIn K (cOf K f) (pOf K f) && (K.lookup (pOf K f)).isNone
theorem mkB_c {K : PySem.W.Frag} {f : Addr} (h : mkB K f = true) : codeV K f = .ref (cOf K f) := by
  unfold mkB at h
  simp only [Bool.and_eq_true] at h
  unfold cOf
  obtain ⟨⟨h, _⟩, _⟩ := h
  split at h
  · rename_i c e
    rw [e]
  · cases h
theorem mkB_h {K : PySem.W.Frag} {f : Addr} (h : mkB K f = true) : PySem.W.codeHdIn K (cOf K f) (pOf K f) = true := by
  unfold mkB at h
  simp only [Bool.and_eq_true] at h
  exact h.1.2
theorem mkB_n {K : PySem.W.Frag} {f : Addr} (h : mkB K f = true) : K.lookup (pOf K f) = none := by
  unfold mkB at h
  simp only [Bool.and_eq_true] at h
  exact Option.isNone_iff_eq_none.mp h.2
section
variable {P : Program} {w : World} {K : PySem.W.Frag} {mg : Str → Option Value} {base : Heap} {CT : Cts} {cl : Cl}
/-- fnG_run, and the code is the def's own -/
theorem fnG_runL {x qual : Str} {st : Stmt} {f : Addr} {fd : FuncData} {NN ps : List Str} {k : Nat} {d : Fn} (F : Fun K x qual st f fd) (S : FnScope NN ps (defScope st)) (hn : d.np = ps.length) (hl : d.nl = NN.length - ps.length) (hcl : GroC cl)
    (hb : ∀ (cdv : Value) (A : Around) (out : List PySem.Env) (s : Shared) (H : Hp) (E : XK) (W : WX), cdv = codeV K f → Room k (A.deeper (envOfC qual (defScope st) s.heap.objs.size f cdv)) → A.guards = some [] → Takes (cxOf (L2.CX P w) P w K mg base NN qual (defScope st) f cdv A out s H E) W →
      PassesOwn (model P w) (A.deeper (envOfC qual (defScope st) s.heap.objs.size f cdv)) (envOfC qual (defScope st) s.heap.objs.size f cdv) (cxOf (L2.CX P w) P w K mg base NN qual (defScope st) f cdv A out s H E).xe →
      PSs (cxOf (L2.CX P w) P w K mg base NN qual (defScope st) f cdv A out s H E) (defBody st) (tSs K CT cl W d.body)) : FnG P w K mg base (k + 1) f fd ps (spB K CT cl d) := by
  obtain ⟨oc, od, kV, doc, pm, an, cdv, ct, osl, rfl, lk, hcd⟩ := F.ex
  have key : codeV K f = cdv := by
    unfold codeV
    rw [lk]
  have fr : ∀ {cdv' : Value}, PySem.W.fnOf x qual (defArgs st) (defBody st) (defScope st) .none kV doc pm an cdv ct = PySem.W.fnOf x qual (defArgs st) (defBody st) (defScope st) .none kV doc pm an cdv' ct → cdv' = cdv := fun e => by
    have := congrArg FuncData.code e
    exact this.symm
  refine ⟨fun vs H Q E h => (spB_len h).trans hn, fun A out s H args us vs Q E hr hg e0 hbd r hsp => ?_⟩
  have inK := e0.mod.kin.keeps (fun b o e => (e0.bs b o e).1)
  have noLim := e0.mod.nolimit.keeps (fun b o e => (e0.bs b o e).1)
  have kinds : ∀ y ∈ ps.zip us, (defScope st).names.lookup y.1 = some .local ∨ ((defScope st).names.lookup y.1 = some .cell ∧ ((cellsFrom (s.heap.objs.size + 1) (defScope st).names []).lookup y.1).isSome = true) := by
    rintro ⟨n, v⟩ hy
    have hn : n ∈ ps := (List.of_mem_zip hy).1
    cases S.par n hn with
    | inl q => exact .inl q
    | inr q => exact .inr ⟨q, PySem.W.cellsFrom_some _ _ _ (.inl q)⟩
  refine codeAny_call_function hr.depth (inK _ _ lk) rfl S.co S.gen rfl (PySem.W.codeRec_of inK hcd) (hbd _ _ _ _ ?_)
  refine wpAny_newFunctionEnv_cells S.kind kinds fun env he s1 z => ?_
  subst he
  refine ⟨noLim.keeps z.toInCall.keep, codeAny_func ?_⟩
  have hlen := spB_len hsp
  have I0 := inv_start (CX := L2.CX P w) (E := E) S hr.hd e0 (hlen.trans hn) r z
  have ht := hb cdv A out s H E (fun cls d _ H' => E cls d H') key.symm (hr.deeper _) hg (takes_of rfl rfl rfl rfl) (passes_of rfl)
  have hq : tSs K CT cl (fun cls d _ H' => E cls d H') d.body { nx := fun _ H' => Q .non H', rt := Q } (start NN vs) H := by
    obtain ⟨m, G, h, pvs, R, rl, q⟩ := hsp
    have e1 : pvs.length = d.np := by rw [rl.length]; exact hlen
    unfold Fn.run at q
    rw [if_pos e1] at q
    have e2 : NN.length - vs.length = d.nl := by rw [hlen, hn, hl]
    refine ⟨m, G, h, pvs.map some ++ List.replicate d.nl none, R, ?_, ?_⟩
    · unfold L2.start
      rw [e2]
      exact sr_start rl _
    · cases e : exs cl d.body (pvs.map some ++ List.replicate d.nl none) h with
      | ok fl h1 =>
        rw [e] at q
        intro m' G' H' x1 x2 R'
        cases fl with
        | nx ρ => exact fun σ _ => q m' G' H' .non x1 x2 R' .non
        | rt v => exact fun u r => q m' G' H' u x1 x2 R' r
        | bk ρ => exact q.elim
        | ct ρ => exact q.elim
        | xc y ρ => exact fun σ cls dd _ xr => q m' G' H' cls dd x1 x2 R' xr
      | exc y h1 =>
        rw [e] at q
        exact q.elim
      | bad =>
        rw [e] at q
        exact q.elim
  refine wpAny_mono (ht.run [] s1 (start NN vs) H _ I0 hq) (fun fl s' hs => ?_) (fun e s' hs => hs)
  cases fl with
  | ret u =>
    obtain ⟨v, σ', H', J, rv, q⟩ := hs
    exact ⟨v, H', J.os, J.bare, J.base, J.hok, rv, q⟩
  | next =>
    obtain ⟨σ', H', J, q⟩ := hs
    exact ⟨V.non, H', J.os, J.bare, J.base, J.hok, rfl, q⟩
  | brk =>
    obtain ⟨_, _, _, z⟩ := hs
    exact False.elim z
  | cont =>
    obtain ⟨_, _, _, z⟩ := hs
    exact False.elim z
end
theorem script_relT {K : PySem.W.Frag} {CT : Cts} {H : Hp} {a : Addr} {ns : List Int} {ts : List Addr} (g0 : CT.gh = []) (t0 : ∀ p ∈ CT.tbs, p.1 ∈ ts) (hT : ∀ b ∈ ts, H b = some (.tbl #[])) (aT : a ∉ ts) (hO : ∀ b, H b = none ∨ b ∈ ts ∨ ∃ o xs, H b = some (.frz o (.lst xs))) (hS : SqL K H a (ns.map V.int)) :
    HR K CT (fun _ => a) (fun b => if b ∈ ts then none else H b) H [.frz (ns.map .int)] := by
  have ga : (if a ∈ ts then none else H a) = H a := if_neg aT
  refine ⟨fun i o e => ?_, fun i j oi oj ei ej ne ki kj => ?_, fun b o e => ?_, fun i o e k => ?_, ⟨fun x hx => (List.not_mem_nil (g0 ▸ hx)).elim, fun p hp => ?_, fun b ps e => ?_⟩⟩
  · cases i with
    | zero =>
      obtain rfl : PO.frz (ns.map .int) = o := by simpa using e
      refine ⟨ns.map V.int, ?_, rel_ints ns⟩
      rcases hS with (z | z) | z
      · rcases hO a with y | y | ⟨ob, xs, y⟩
        · rw [z] at y; cases y
        · exact absurd y aT
        · rw [z] at y; cases y
      · obtain ⟨o, z⟩ := z
        exact .inl ⟨o, ga.trans z⟩
      · exact .inr z
    | succ i => simp at e
  · cases i with
    | zero =>
      obtain rfl : PO.frz (ns.map .int) = oi := by simpa using ei
      cases ki
    | succ i => simp at ei
  · by_cases hb : b ∈ ts
    · rw [if_pos hb] at e
      cases e
    · rw [if_neg hb] at e
      exact e
  · cases i with
    | zero =>
      obtain rfl : PO.frz (ns.map .int) = o := by simpa using e
      cases k
    | succ i => simp at e
  · refine ⟨if_pos (t0 p hp), #[], hT _ (t0 p hp), trivial, fun pos cv hc => ?_⟩
    have z : codeAmong pos [] = some cv := hc
    simp [codeAmong] at z
  · by_cases hb : b ∈ ts
    · rw [if_pos hb] at e
      cases e
    · rw [if_neg hb] at e
      rcases hO b with y | y | ⟨ob, xs, y⟩
      · rw [y] at e; cases e
      · exact hb y
      · rw [y] at e; cases e
/-- the law's def, called by the judge: True comes out -/
theorem law_trueT {P : Program} {w : World} {K : PySem.W.Frag} {CT : Cts} {cl : Cl} {mg mb : Str → Option Value} {k : Nat} {fa a : Addr} {cs : List (Addr × Addr)} {fd : FuncData} {x : Str} {z : Shared} {us : List Value} {ns : List Int}
    (inK : K.In z.heap) (glob : z.heap.Ns mainGlobals mg) (blt : z.heap.Ns builtinsNs mb) (same : ∀ y : Str, y ≠ "__name__" → mb y = bootBuiltins y) (free : z.heap.NoLimit) (noGen : z.gens = #[])
    (hT : ∀ p ∈ cs, z.heap.get? p.2 = some { cls := .none, data := .fields #[] }) (nT : ∀ p ∈ cs, K.lookup p.2 = none) (hC : ∀ p ∈ cs, PySem.W.CodeHd z.heap p.1 p.2)
    (hbm : ∃ (bm : Addr) (ob : Obj), mg "__builtins__" = some (.ref bm) ∧ bm ≠ builtinsNs ∧ z.heap.get? bm = some ob ∧ ob.cls = .type "module" ∧ ob.dict = some builtinsNs ∧ ob.data = .plain)
    (obj : z.heap.get? a = some { cls := .type "list", data := .seq us.toArray }) (intz : IntsAre us ns) (few : ns.length ≤ sizeLine) (room : Room k callerA) (g0 : CT.gh = []) (t0 : ∀ p ∈ CT.tbs, p.1 ∈ cs.map (·.2))
    (F : ∀ base : Heap, K.In base → base.Ns mainGlobals mg → (∀ p ∈ cs, TabB base mg p.1 p.2) → FnG P w K mg base k fa fd [x] (spI K CT cl (.f "law"))) (bd : ∀ (s : Shared) (u : Value), BindsTo s fd ⟨[u], []⟩ [(x, u)])
    (ok : ∃ h', cl (.f "law") [.ref 0] [.frz (ns.map .int)] = .ok (.bl true) h') :
    codeAny (model P w) callerA (.call (.ref fa) ⟨[.ref a], []⟩) (fun r s' => r = .ok (.ret (.bool true)) ∧ OldK z.heap s'.heap ∧ s'.os = z.os ∧ AllBare s'.gens) z := by
  have vals := vals_ints intz
  have size : us.length = ns.length := intz.length
  have isT : ∀ b : Addr, b ∈ cs.map (·.2) → z.heap.get? b = some { cls := .none, data := .fields #[] } := fun b hb => by
    obtain ⟨p, hp, e⟩ := List.mem_map.mp hb
    rw [← e]
    exact hT p hp
  have aT : a ∉ cs.map (·.2) := fun q => by
    have q := isT a q
    rw [obj] at q
    have q' : Data.seq us.toArray _ = Data.fields #[] := congrArg Obj.data (Option.some.inj q)
    cases q'
  have memT : ∀ p ∈ cs, p.2 ∈ cs.map (·.2) := fun p hp => List.mem_map.mpr ⟨p, hp, rfl⟩
  have core : ∀ H : Hp, (∀ b ∈ cs.map (·.2), H b = some (.tbl #[])) → (∀ b, H b = none ∨ b ∈ cs.map (·.2) ∨ ∃ o xs, H b = some (.frz o (.lst xs))) → SqL K H a (ns.map V.int) → HOk P w H z.heap → (∀ b, H b ≠ none → b = a ∨ b ∈ cs.map (·.2)) → (H a ≠ none → K.lookup a = none) →
      codeAny (model P w) callerA (.call (.ref fa) ⟨[.ref a], []⟩) (fun r s' => r = .ok (.ret (.bool true)) ∧ OldK z.heap s'.heap ∧ s'.os = z.os ∧ AllBare s'.gens) z := by
    intro H hH hO hS hok hA hK
    have base_of : ∀ {b : Addr} {o : Obj}, z.heap.get? b = some o → H b = none → (hidT z.heap H).get? b = some o := fun e n => hidT_get e n
    have noD : ∀ {b : Addr} {o : Obj}, z.heap.get? b = some o → (∀ vs n, o.data ≠ .seq vs n) → o.data ≠ .fields #[] → H b = none := fun {b o} e h1 h2 => by
      cases q : H b with
      | none => rfl
      | some u =>
        rcases hA b (by rw [q]; simp) with e' | e'
        · rw [e', obj] at e
          cases e
          exact (h1 _ _ rfl).elim
        · rw [isT b e'] at e
          cases e
          exact (h2 rfl).elim
    have noA : ∀ {b : Addr} {o : Obj} {es : Array DictEntry} {ep : Nat}, z.heap.get? b = some o → o.data = .dict es ep → H b = none := fun {b o es ep} e d => by
      refine noD e (fun vs n q => ?_) fun q => ?_
      · rw [d] at q
        cases q
      · rw [d] at q
        cases q
    have nsK : ∀ {b : Addr} {m : Str → Option Value}, z.heap.Ns b m → (hidT z.heap H).Ns b m := fun {b m} ⟨o, es, ep, e, d, r⟩ => ⟨o, es, ep, base_of e (noA e d), d, r⟩
    have hKb : K.In (hidT z.heap H) := fun b o e => base_of (inK b o e) (by
      cases q : H b with
      | none => rfl
      | some u =>
        rcases hA b (by rw [q]; simp) with e' | e'
        · rw [e'] at e q
          rw [hK (by rw [q]; simp)] at e
          cases e
        · obtain ⟨p, hp, ep⟩ := List.mem_map.mp e'
          rw [← ep, nT p hp] at e
          cases e)
    obtain ⟨mc, l1, l2⟩ := id free
    have hM : L2.Mod K mg (hidT z.heap H) := ⟨hKb, nsK glob, ⟨mb, nsK blt, same⟩, ⟨mc, nsK l1, l2⟩⟩
    have TB : ∀ p ∈ cs, TabB (hidT z.heap H) mg p.1 p.2 := fun p hp => by
      have hTp := hT p hp
      refine ⟨?_, ?_, fun q => ?_⟩
      · obtain ⟨o, us, file, tf, flags, tg, inF, text, tt, e1, r1, r2, r3, r4, r5, r6, r7, r8, hne⟩ := hC p hp
        refine ⟨o, us, file, tf, flags, tg, inF, text, tt, base_of e1 (noD e1 (fun vs n q => ?_) fun q => ?_), r1, r2, r3, r4, r5, r6, r7, r8, hne⟩
        · rw [r2] at q
          cases q
        · rw [r2] at q
          cases q
          simp at r3
      · obtain ⟨bm, ob, b1, b2, b3, b4, b5, b6⟩ := hbm
        have nG : bm ≠ mainGlobals := fun q => by
          obtain ⟨o, es, ep, e, hd, _⟩ := glob
          rw [q, e] at b3
          cases b3
          rw [hd] at b6
          cases b6
        have nP : bm ≠ p.2 := fun q => by
          rw [q, hTp] at b3
          cases b3
          cases b6
        refine ⟨bm, ob, b1, b2, nG, nP, base_of b3 (noD b3 (fun vs n q => ?_) fun q => ?_), b4, b5, b6⟩
        · rw [b6] at q
          cases q
        · rw [b6] at q
          cases q
      · obtain ⟨o, es, ep, e, hd, _⟩ := glob
        rw [q, hTp] at e
        cases e
        cases hd
    have e0 : Env0 P w K mg (hidT z.heap H) callerA [] z H := ⟨rfl, hM, fun b o e => of_hidT e, Nat.le_of_eq (hidT_size _ _), trivial, fun b hb => absurd (show b ∈ ([] : List Addr) from hb) (by simp), hok, .of_eq noGen⟩
    have sp : spI K CT cl (.f "law") [.ref a] H (fun v _ => v = .bl true) fun _ _ _ => False := by
      obtain ⟨h', e⟩ := ok
      have q : Rel K (fun _ => a) [PO.frz (ns.map .int)].length (fun b => if b ∈ cs.map (·.2) then none else H b) (.ref 0) (.ref a) := .ref (n := 0) (m := fun _ => a) (by simp)
      refine ⟨fun _ => a, _, _, [.ref 0], script_relT g0 t0 hH aT hO hS, .cons q .nil, ?_⟩
      rw [e]
      exact fun _ _ _ b _ _ _ r => r.bl_inv
    refine codeAny_mono ((F _ hKb (nsK glob) TB).go callerA [] z H ⟨[.ref a], []⟩ [.ref a] [.ref a] _ _ room rfl e0 (bd z (.ref a)) (.cons rfl .nil) sp) fun r s' h => ?_
    match r, h with
    | .error e, h =>
      obtain ⟨_, _, _, _, _, _, _, _, _, _, _, _, no⟩ := h
      exact no.elim
    | .ok .next, h => exact False.elim h
    | .ok .brk, h => exact False.elim h
    | .ok .cont, h => exact False.elim h
    | .ok (.ret u), ⟨v, H', os, bare, un, hok', r', q⟩ =>
      have q' : v = .bl true := q
      subst q'
      obtain rfl : u = Value.bool true := r'
      have key : ∀ b o, b ∉ cs.map (·.2) → z.heap.get? b = some o → s'.heap.get? b = some o := fun b o nb e => by
        rcases hO b with y | y | ⟨ob, xs, y⟩
        · exact un.keep b o e y (by intro q; exact absurd (show b ∈ ([] : List Addr) from q) (by simp)) (by simp)
        · exact absurd y nb
        · have z2 := un.frzs b ob _ y
          obtain ⟨e1, _⟩ := hok b _ y
          obtain ⟨e2, _⟩ := hok' b _ z2
          rw [e] at e1; cases e1
          exact e2
      have grown : ∀ p ∈ cs, ∃ more : Array Value, s'.heap.get? p.2 = some { cls := .none, data := .fields more } := fun p hp => by
        obtain ⟨more, q⟩ := un.tbls p.2 #[] (hH p.2 (memT p hp))
        exact ⟨_, hok' p.2 _ q⟩
      refine ⟨rfl, ⟨fun b o e => ?_, fun b o e => ?_⟩, os, bare⟩
      · by_cases hb : b ∈ cs.map (·.2)
        · obtain ⟨p, hp, ep⟩ := List.mem_map.mp hb
          obtain ⟨more, hm⟩ := grown p hp
          rw [← ep] at e ⊢
          rw [hT p hp] at e
          cases e
          exact .inr (.inl ⟨((hC p hp).tab (hT p hp)).isCodeTable, rfl, #[], more, rfl, by rw [Array.empty_append]; exact hm⟩)
        · exact .inl (key b o hb e)
      · by_cases hb : b ∈ cs.map (·.2)
        · obtain ⟨p, hp, ep⟩ := List.mem_map.mp hb
          obtain ⟨more, hm⟩ := grown p hp
          rw [← ep]
          exact ⟨_, hm⟩
        · exact ⟨o, key b o hb e⟩
  cases hk : K.lookup a with
  | some o =>
    have e := inK a o hk
    rw [obj] at e
    cases e
    refine core (fun b => if b ∈ cs.map (·.2) then some (.tbl #[]) else none) (fun b hb => if_pos hb) (fun b => ?_) (.inr ⟨_, us.toArray, _, hk, rfl, rfl, rfl, by rw [List.size_toArray, size]; exact few, by simpa using vals⟩) (fun b u q => ?_) (fun b q => ?_) fun q => absurd (show (if a ∈ cs.map (·.2) then some (HO.tbl #[]) else none) = none from if_neg aT) q
    · by_cases hb : b ∈ cs.map (·.2)
      · exact .inr (.inl hb)
      · exact .inl (if_neg hb)
    · by_cases hb : b ∈ cs.map (·.2)
      · have q' := (if_pos hb).symm.trans q
        cases q'
        exact isT b hb
      · have q' := (if_neg hb).symm.trans q
        cases q'
    · by_cases hb : b ∈ cs.map (·.2)
      · exact .inr hb
      · exact absurd (if_neg hb) q
  | none =>
    refine core (fun b => if b = a then some (.frz { cls := .type "list", data := .seq us.toArray } (.lst (ns.map V.int))) else if b ∈ cs.map (·.2) then some (.tbl #[]) else none) (fun b hb => (if_neg (show ¬ b = a from fun q => aT (by rw [← q]; exact hb))).trans (if_pos hb)) (fun b => ?_)
      (.inl (.inr ⟨{ cls := .type "list", data := .seq us.toArray }, if_pos rfl⟩)) (fun b u q => ?_) (fun b q => ?_) fun _ => hk
    · by_cases hb : b = a
      · exact .inr (.inr ⟨_, _, if_pos hb⟩)
      · by_cases hb2 : b ∈ cs.map (·.2)
        · exact .inr (.inl hb2)
        · exact .inl ((if_neg hb).trans (if_neg hb2))
    · by_cases hb : b = a
      · have q' := (if_pos hb).symm.trans q
        cases q'
        rw [hb]
        exact ⟨obj, by rw [List.length_map]; exact few, us, _, vals, obj⟩
      · have q1 := (if_neg hb).symm.trans q
        by_cases hb2 : b ∈ cs.map (·.2)
        · have q' := (if_pos hb2).symm.trans q1
          cases q'
          exact isT b hb2
        · have q' := (if_neg hb2).symm.trans q1
          cases q'
    · by_cases hb : b = a
      · exact .inl hb
      · by_cases hb2 : b ∈ cs.map (·.2)
        · exact .inr hb2
        · exact absurd ((if_neg hb).trans (if_neg hb2)) q
/-- all but the tables of code -/
def noTab (g : Addr → Option Obj) (a : Addr) : Bool := match g a with
  | some ⟨.none, _, .fields _, _⟩ => false
  | _ => true
def frL (g : Addr → Option Obj) (n : Nat) : PySem.W.Frag := He.frG g ((sysModules :: PySem.cStatics :: He.asD g n).filter (noTab g))
abbrev ObsL : Type := Obs × List (Option Obj)
def obsLG (n : Nat) (xs : XSP) (fa : List He.Fa) (fn : List He.DefD) (ts : List He.Tab) (mks : List String) (g : Addr → Option Obj) : ObsL := (obsM xs fa fn ts (frL g n), mks.map fun x => g (pOf (frL g n) (He.ga (frL g n) (SO x))))
def hookL (n : Nat) (xs : XSP) (fa : List He.Fa) (fn : List He.DefD) (ts : List He.Tab) (mks : List String) : PySem.W.Hook where
  α := ObsL
  obs := fun s => obsLG n xs fa fn ts mks s.heap.get?
  val := fun w => (valM xs fn ts w, mks.map fun _ => some (PySem.W.tabObj #[]))
  says := fun w h => ∃ K : PySem.W.Frag, K.In h ∧ SaysM xs fa fn ts w K ∧ ∀ x ∈ mks, h.get? (pOf K (He.ga K (SO x))) = some (PySem.W.tabObj #[])
  of := fun w s e => ⟨_, He.frG_in, (Prod.mk.inj e).1, fun x hx => List.map_inj_left.mp (Prod.mk.inj e).2 x hx⟩
  keeps := fun _ _ _ ⟨K, inK, c, t⟩ k => ⟨K, PySem.W.Frag.In.keeps inK k, c, fun x hx => k _ _ (t x hx)⟩
theorem obsLG_eq {n : Nat} {xs : XSP} {fa : List He.Fa} {fn : List He.DefD} {ts : List He.Tab} {mks : List String} {g : Addr → Option Obj} {s : Shared} (h : ∀ a, g a = s.heap.get? a) : obsLG n xs fa fn ts mks g = (hookL n xs fa fn ts mks).obs s := by
  have e : s.heap.get? = g := funext fun a => (h a).symm
  show _ = obsLG n xs fa fn ts mks s.heap.get?
  rw [e]
/-- the walk of the law row, where lambdas are made -/
theorem walkL {l : PySem.W.OpenLaw} {k : Nat} {q : Program} {loose : List Str} {XP : (Str → Option Value) → Heap → Prop} {YP : World → Heap → Prop} {d : DefRec} {cl : Cl} {x : Str}
    (most : l.most = some 63) (noDef : d.params.defaults = []) (room : Room k callerA)
    (F : ∀ (w : World) (mg : Str → Option Value) (fa : Addr) (h : Heap), YP w h → h.Ns mainGlobals mg → mg d.name = some (.ref fa) →
      ∃ (K : PySem.W.Frag) (fd : FuncData) (CT : Cts) (cs : List (Addr × Addr)), CT.gh = [] ∧ (∀ p ∈ CT.tbs, p.1 ∈ cs.map (·.2)) ∧ K.In h ∧ (∀ p ∈ cs, h.get? p.2 = some { cls := .none, data := .fields #[] }) ∧ (∀ p ∈ cs, K.lookup p.2 = none) ∧ (∀ p ∈ cs, PySem.W.CodeHd h p.1 p.2) ∧
        (∀ (s : Shared) (u : Value), BindsTo s fd ⟨[u], []⟩ [(x, u)]) ∧ ∀ base : Heap, K.In base → base.Ns mainGlobals mg → (∀ p ∈ cs, TabB base mg p.1 p.2) → FnG l.prog w K mg base k fa fd [x] (spI K CT cl (.f "law")))
    (ok : ∀ ns : List Int, ns.length ≤ 63 → ∃ h', cl (.f "law") [.ref 0] [.frz (ns.map .int)] = .ok (.bl true) h') :
    PySem.W.WalkO q loose XP YP l.row.toRowW d [] (fun f vs => PySem.call f vs) :=
  Att.attach_call most noDef fun w s0 z mg mb fa o pm cd doc a us ns G Y ho hd hcd hmg obj intz few noGen => by
    obtain ⟨K, fd, CT, cs, g0, t0, inK, hT, nT, hC, bd, hF⟩ := F w mg fa _ Y G.T.g hmg
    exact law_trueT inK G.T.g G.T.b G.T.builtins G.T.nolimit noGen hT nT hC G.T.bmain obj intz (by rw [sizeLine_eq]; omega) room g0 t0 hF bd (ok ns few)
theorem tbs_hu {l : List (Addr × Str)} (nd : (l.map (·.1)).Nodup) {P : Addr} {q : Str} (hm : (P, q) ∈ l) : ∀ p ∈ l, p.1 = P → p.2 = q := by
  induction l with
  | nil => cases hm
  | cons a r ih =>
    rw [List.map_cons, List.nodup_cons] at nd
    intro p hp e
    rcases List.mem_cons.mp hm with h1 | h1 <;> rcases List.mem_cons.mp hp with h2 | h2
    · rw [h2, ← h1]
    · exact absurd (List.mem_map.mpr ⟨p, h2, by rw [e, ← h1]⟩) nd.1
    · exact absurd (List.mem_map.mpr ⟨_, h1, by rw [← e, h2]⟩) nd.1
    · exact ih nd.2 h1 p h2 e
/-- calls, from within a def that got a lambda -/
theorem Cal.clL {P : Program} {w : World} {K : PySem.W.Frag} {mg : Str → Option Value} {base : Heap} {CT : Cts} {cl : Cl} {k n0 : Nat} {kb : PH → R PV} {g : String} {a : Addr} (C : Cal P w K mg base CT cl k (.f g) a) : Cal P w K mg base CT (Mi.clL cl n0 kb) k (.f g) a := ⟨C.ex⟩
end Mi
set_option Elab.async false
set_option linter.all false
set_option maxRecDepth 100000
namespace Mi
open PySem PySem.Spec PyProof.Rows L2
section
variable {X : Cx} {CT : Cts} {cl : Cl} {W : WX}
end
end Mi
set_option Elab.async false
set_option linter.all false
set_option maxRecDepth 100000
namespace Mi
open PySem PySem.Spec PyProof.Rows L2
section
variable {X : Cx} {CT : Cts} {cl : Cl} {W : WX} {e : Expr} {c : E} {pos p p2 q2 : Pos}
end
end Mi
set_option Elab.async false
set_option linter.all false
set_option maxRecDepth 100000
namespace Mi
open PySem PySem.Spec PyProof.Rows L2
section
variable {M : Model} {A : Around} {Er : Value → Shared → Prop} {s : Shared} {pos : Pos} {x : Addr} {first : List Value} {Q : Value → Shared → Prop}
end
section
variable {X : Cx} {CT : Cts} {cl : Cl} {W : WX} {k : Nat} {e : Expr} {es : List Expr} {cs : List E} {pos p : Pos}
end
end Mi
set_option Elab.async false
set_option linter.all false
set_option maxRecDepth 100000
namespace Mi
open PySem PySem.Spec PyProof.Rows L2
section
variable {X : Cx} {CT : Cts} {cl : Cl} {W : WX} {k : Nat} {a : Addr} {f : FN}
theorem Post.lenR {Q : VK} {σ : L2.St} {m : Nat → Addr} {G : Hp} {N : Nat} {r : R PV} (p : Post X.K CT (Rel X.K) W σ m G N Q (r.bind lenR)) : Post X.K CT (Rel X.K) W σ m G N (fun v H' => ∃ i : Int, v = .int i ∧ 0 ≤ i ∧ i < 4611686018427387904 ∧ Q (.int i) H') r := by
  cases r with
  | ok v h' =>
    intro m' G' H' b e1 e2 e3 e4
    rw [bind_ok] at p
    unfold Mi.lenR at p
    split at p
    · rename_i i
      split at p
      · rename_i hi
        exact ⟨i, e4.int_inv, hi.1, hi.2, p m' G' H' (.int i) e1 e2 e3 (.int _)⟩
      · exact p.elim
    · exact p.elim
  | exc x h' => exact p
  | bad => exact p
variable {e : Expr} {c : E} {pos p : Pos}
end
end Mi
set_option Elab.async false
set_option linter.all false
set_option maxRecDepth 100000
namespace Mi
open PySem PySem.Spec PyProof.Rows L2
section
variable {nh : NestedKey → Int}
section
variable {X : Cx} {CT : Cts} {cl : Cl} {W : WX} {k : Nat}
theorem Post.negR {neg : Bool} {Q : VK} {σ : L2.St} {m : Nat → Addr} {G : Hp} {N : Nat} {r : R PV} (p : Post X.K CT (Rel X.K) W σ m G N Q (r.bind (negR neg))) : Post X.K CT (Rel X.K) W σ m G N (fun v H' => ∃ t : Bool, v = .bl t ∧ Q (.bl (if neg then !t else t)) H') r := by
  cases r with
  | ok v h' =>
    intro m' G' H' b e1 e2 e3 e4
    rw [bind_ok] at p
    unfold Mi.negR at p
    split at p
    · rename_i t
      exact ⟨t, e4.bl_inv, p m' G' H' (.bl _) e1 e2 e3 (.bl _)⟩
    · exact p.elim
  | exc x h' => exact p
  | bad => exact p
variable {e1 e2 : Expr} {c1 c2 : E} {pos : Pos}
end
end
end Mi
set_option Elab.async false
set_option linter.all false
set_option maxRecDepth 100000
namespace Mi
open PySem PySem.Spec PyProof.Rows L2
section
variable {X : Cx} {CT : Cts} {W : WX}
end
section
variable {X : Cx} {CT : Cts} {cl : Cl} {W : WX} {k : Nat} {e1 e2 : Expr} {c1 c2 : E} {pos : Pos}
end
end Mi
set_option Elab.async false
set_option linter.all false
set_option maxRecDepth 100000
namespace Mi
open PySem PySem.Spec PyProof.Rows L2
section
variable {K : PySem.W.Frag} {x C f : Addr} {name : Str} {A : Around} {E : Value → Shared → Prop} {s : Shared} {ox : Obj} {od : Option Obj}
end
section
variable {prog : Program} {w : World} {K : PySem.W.Frag} {x C f : Addr} {A : Around} {E : Value → Shared → Prop} {s : Shared} {ox : Obj} {od : Option Obj} {y tb : Value}
end
end Mi
set_option Elab.async false
set_option linter.all false
set_option maxRecDepth 100000
namespace Mi
open PySem PySem.Spec PyProof.Rows L2
section
variable {nh : NestedKey → Int}
abbrev bTys : List String := ["NoneType", "bool", "int", "str", "tuple", "list", "dict"]
/-- whose == comes first -/
structure NeqC (K : PySem.W.Frag) (CT : Cts) (C : Addr) : Prop where
  bt : ∀ n, n ∈ bTys → PySem.W.notFirst K C (.type n) = true
  ow : ∀ c D, CT.ins c D → PySem.W.notFirst K C (.ref D) = true
  ex : ∀ c D, CT.exc c D → PySem.W.notFirst K C (.ref D) = true
  ne : PySem.W.findIn K (.ref C) "__ne__" = some (some (.builtin "object.__ne__"))
  mo : PySem.W.mroIn K C (.type "object") = some true
section
variable {X : Cx} {CT : Cts} {cl : Cl} {W : WX} {k : Nat}
variable {e1 e2 : Expr} {c1 c2 : E} {pos : Pos}
end
end
end Mi
set_option Elab.async false
set_option linter.all false
set_option maxRecDepth 100000
namespace Mi
open PySem PySem.Spec PyProof.Rows L2
section
variable {nh : NestedKey → Int}
open AutoSeq1 (wpAny_loadPart')
open Sem (wp)
/-- what enumerate.__new__ leaves of a tuple -/
abbrev enuH (hp : Heap) (a : Addr) : Heap := (hp.push { cls := .type "tuple_iterator", data := .fields #[.ref a, .int 0 0] }).push { cls := .type "enumerate", data := .fields #[.none, .bool false, .ref hp.objs.size, rawInt 0, .none, .none] }
theorem enum_made (a : Addr) (xs : Array Value) (k : Nat) (dd : Option Addr) (sl : Array (Option Value)) :
    Meets (Builtin.«enumerate.__new__» ⟨[.type "enumerate", .ref a], []⟩) (fun _ R z => z.heap.get? a = some ⟨.type "tuple", dd, .seq xs k, sl⟩ ∧
      R (.ok (.ret (.ref (z.heap.push { cls := .type "tuple_iterator", data := .fields #[.ref a, .int 0 0] }).objs.size))) { z with heap := enuH z.heap a }) :=
  .of_wp fun P w A R z hz => by
    obtain ⟨hh, gg, dd', tt, oo⟩ := z
    obtain ⟨ha, hR⟩ := hz
    have sub := sub_enumerate
    have ht : Heap.IsTuple (Shared.heap ⟨hh, gg, dd', tt, oo⟩) a xs := ⟨_, ha, rfl, k, rfl⟩
    wp_walk using wpAny_loadPart' ha
    refine wpAny_stack_any fun st => wpAny_pure ?_
    split
    · rename_i c _ _ _ _ _
      cases (c == Value.type "enumerate") <;> (wp_walk using wpAny_loadPart' ha, wpAny_pyIter_tuple ht; exact ⟨_, rfl, hR⟩)
    · wp_walk using wpAny_loadPart' ha, wpAny_pyIter_tuple ht
      exact ⟨_, rfl, hR⟩
section
variable {P : Program} {w : World} {A : Around} {Er : Value → Shared → Prop} {z : Shared}
theorem call_enumerate_tup {a : Addr} {xs : Array Value} {Q : Value → Shared → Prop} (ht : z.heap.IsTuple a xs)
    (q : ∀ h1, IsEnum h1 (z.heap.objs.size + 1) z.heap.objs.size 0 .none → h1.IsTupleIter z.heap.objs.size a 0 → (∀ b o, z.heap.get? b = some o → h1.get? b = some o) → Q (.ref (z.heap.objs.size + 1)) { z with heap := h1 }) :
    wpAny (model P w) A (call (.type "enumerate") [.ref a]) Q Er z := by
  obtain ⟨⟨c, dd, dt, sl⟩, ha, hc, k, hd⟩ := ht
  obtain rfl : c = .type "tuple" := hc
  obtain rfl : dt = .seq xs k := hd
  refine callType_new PySem.F.called_enumerate (by decide) (PySem.F.typeCall_enumerate_1 _) (PySem.F.newCall_enumerate_1 _) (fun o => PySem.F.args_object_init_2 o _) PySem.F.entry_enumerate_new (enum_made a xs k dd sl) ⟨ha, ?_⟩
  have sz : (z.heap.push { cls := .type "tuple_iterator", data := .fields #[.ref a, .int 0 0] }).objs.size = z.heap.objs.size + 1 := Heap.size_push ..
  show _ ∧ _
  rw [sz]
  have ie : IsEnum (enuH z.heap a) (z.heap.objs.size + 1) z.heap.objs.size 0 .none := by
    have y := Heap.get?_push_size (z.heap.push { cls := .type "tuple_iterator", data := .fields #[.ref a, .int 0 0] }) (o := { cls := .type "enumerate", data := .fields #[.none, .bool false, .ref z.heap.objs.size, rawInt 0, .none, .none] }) rfl
    rw [sz] at y
    exact y
  exact ⟨⟨_, ie, rfl⟩, q _ ie ⟨_, Heap.get?_push_of_some _ (Heap.get?_push_size _ rfl), rfl, rfl⟩ fun b o y => Heap.get?_push_of_some _ (Heap.get?_push_of_some _ y)⟩
end
/-- the tuple at a, each item in a new pair -/
def Itet (K : PySem.W.Frag) (a : Addr) (xs : List V) : It :=
  ⟨fun i H => SqT K H a xs ∧ i < xs.length, fun i H v H' => ∃ T x, v = .ref T ∧ H T = none ∧ H' = upd H T (.tup [.int (i : Nat), x]) ∧ xs[i]? = some x, fun i H => SqT K H a xs ∧ xs.length ≤ i⟩
theorem tup_ne_enum {h : Heap} {a e it : Addr} {items : Array Value} {i : Int} {old : Value} (ht : h.IsTuple a items) (he : IsEnum h e it i old) : a ≠ e := by
  obtain ⟨o, h1, c, _⟩ := ht
  rintro rfl
  have h2 : h.get? a = _ := he
  rw [h1] at h2
  injection h2 with h2
  rw [h2] at c
  injection c with c
  exact absurd c (by decide)
theorem tup_ne_iter {h : Heap} {a it : Addr} {items : Array Value} {i : Nat} (ht : h.IsTuple a items) (he : h.IsTupleIter it a i) : a ≠ it := by
  obtain ⟨o, h1, c, _⟩ := ht
  obtain ⟨o2, h2, c2, _⟩ := he
  rintro rfl
  rw [h1] at h2
  injection h2 with h2
  rw [h2, c2] at c
  injection c with c
  exact absurd c (by decide)
theorem turn_enumt {P : Program} {w : World} {K : PySem.W.Frag} {elts : List Expr} {kk : Nat} {tpos : Pos} (a : Addr) (xs : List V) (e it : Addr) :
    Turn P w K (.Tuple elts kk tpos) (Itet K a xs) [e, it] e (fun i h => (∃ old, IsEnum h e it ((i : Nat) : Int) old) ∧ h.IsTupleIter it a i ∧ i ≤ xs.length ∧ e ≠ it) where
  mem := by simp
  obj := fun i h st b hb => by
    obtain ⟨⟨old, he⟩, ⟨o, ho, hc, hd⟩, _⟩ := st
    have e' : b = e ∨ b = it := by simpa using hb
    rcases e' with z | z
    · rw [z]; exact ⟨_, he, fun v q => nomatch q⟩
    · rw [z]; exact ⟨o, ho, fun v q => by rw [hd] at q; cases q⟩
  keep := fun i h h' st k => let ⟨⟨old, he⟩, ⟨o, ho, r⟩, hb, hne⟩ := st; ⟨⟨old, k e (by simp) _ he⟩, ⟨o, k it (by simp) o ho, r⟩, hb, hne⟩
  item := by
    intro X hP hw hK hc i pins s σ H E I hf st hg
    subst hP hw hK
    obtain ⟨⟨old, he⟩, hit, hb, hne⟩ := st
    obtain ⟨hq, hi⟩ := hg
    obtain ⟨its, rv, p, hz⟩ := I.tuple hq
    obtain ⟨u, hu, ru⟩ := rv.get (List.getElem?_eq_getElem hi)
    have p' : s.heap.IsTuple a its.toArray := p
    have ae : a ≠ e := tup_ne_enum p' he
    have ai : a ≠ it := tup_ne_iter p' hit
    have D := Draws.tuple (prog := X.prog) (w := X.w) (A := X.A.in1) (I.ok.hd hc) it a ai its.toArray
    have hel : e < s.heap.objs.size := Heap.lt_size he
    have hil : it < s.heap.objs.size := by obtain ⟨_, q, _⟩ := hit; exact Heap.lt_size q
    have hl := rv.length
    refine wpAny_pyNext_enum_itemD D he ⟨hit, p'⟩ (by rw [List.size_toArray]; omega) hne (by simp [hne, Ne.symm ae]) fun y h' tk hy ho hit' hT hsz hk => ?_
    obtain rfl : y = u := by
      have : its[i]? = some y := by simpa using hy
      rw [hu] at this
      exact (Option.some.inj this).symm
    refine ⟨_, rfl, wpAny_letOwnedTupleGo_enum (s := { s with heap := h', toks := tk + 1 }) ho fun h'' he' sb => ?_⟩
    have hT2 : h''.get? s.heap.objs.size = some { cls := .type "tuple", data := .seq #[.int i tk, y] } := (sb.2 _ (Nat.ne_of_gt hel)).trans hT
    have new : ObjOk X.prog X.w (upd H s.heap.objs.size (.tup [.int (i : Nat), xs[i]])) h'' s.heap.objs.size (.tup [.int (i : Nat), xs[i]]) :=
      ⟨by show 2 ≤ sizeLine; decide, [.int i tk, y], .cons ⟨_, rfl⟩ (.cons ru .nil), ⟨_, hT2, rfl, _, rfl⟩⟩
    have I1 : Inv X pins σ (upd H s.heap.objs.size (.tup [.int (i : Nat), xs[i]])) { s with heap := h'', toks := tk + 1 } :=
      I.turnedNew (ch := [e, it]) (fun b ob hb q => (sb.2 b (fun z => hb (by simp [z]))).trans (hk b ob (fun z => hb (by simp [z])) (fun z => hb (by simp [z])) q)) hf (Nat.le_refl _) new
    refine ⟨.ref s.heap.objs.size, _, I1, rfl, ⟨_, xs[i], rfl, I.hok.fresh (Nat.le_refl _), rfl, List.getElem?_eq_getElem hi⟩, ⟨⟨y, ?_⟩, ?_, hi, hne⟩, fun b hb => ?_⟩
    · have e1 : ((i + 1 : Nat) : Int) = (i : Int) + 1 := by omega
      rw [e1]; exact he'
    · obtain ⟨⟨o, ho', r⟩, _⟩ := hit'
      exact ⟨o, (sb.2 it (Ne.symm hne)).trans ho', r⟩
    · have hb' : b < s.heap.objs.size := by
        have e' : b = e ∨ b = it := by simpa using hb
        rcases e' with z | z
        · rw [z]; exact hel
        · rw [z]; exact hil
      rw [upd_ne (Nat.ne_of_lt hb')]
      exact (hf b hb).1
  done := by
    intro X hP hw hK hc i pins s σ H E I hf st hg
    subst hP hw hK
    obtain ⟨⟨old, he⟩, hit, hb, hne⟩ := st
    obtain ⟨hq, hi⟩ := hg
    obtain ⟨its, rv, p, hz⟩ := I.tuple hq
    have p' : s.heap.IsTuple a its.toArray := p
    have ai : a ≠ it := tup_ne_iter p' hit
    have D := Draws.tuple (prog := X.prog) (w := X.w) (A := X.A.in1) (I.ok.hd hc) it a ai its.toArray
    obtain ⟨f0, f1, f2, f3, f4, f5⟩ := hf it (by simp)
    have hl := rv.length
    have e0 : i = its.toArray.size := by rw [List.size_toArray]; omega
    subst e0
    exact wpAny_pyNext_enum_endD D he ⟨hit, p'⟩ fun h' eb => ⟨rfl, I.turned (t' := s.toks) (fun b o hb q => eb b o hb q) f0 f1 f3 f4 f5⟩
  self := fun A i s Q E st h => let ⟨⟨_, he⟩, _⟩ := st; wpAny_pyIter_enum he h
def iEnum2 (K : PySem.W.Frag) (ta : TA) : TI := fun σ H R => ta σ H fun vs H1 => ∃ a xs, vs = [.ref a] ∧ ((SqL K H1 a xs ∧ R (Ite K a) H1) ∨ (SqT K H1 a xs ∧ R (Itet K a xs) H1))
theorem pi_enum2 {X : Cx} {e : Expr} {ta : TA} {p pos tpos : Pos} {elts : List Expr} {kk : Nat} (hg : Gl X "enumerate") (hm : X.mg "enumerate" = none) (ha : PA X [e] ta) (hs : starEach [e] X.env = [(false, eval e X.env)] := by rfl) :
    PI X (.Tuple elts kk tpos) (.Call (.Name "enumerate" p) [e] [] pos) (iEnum2 X.K ta) := by
  refine ⟨fun pins s σ H R I h => ?_⟩
  refine Call_ (ld_blt I hg hm boot_enumerate (PyProof.Rows.callWith_type1 (thn (ha.run pos pins s σ H _ I h) fun us s1 ⟨vs, H1, I1, r1, q1⟩ => ?_) hs rfl))
  obtain ⟨a, xs, ex, q⟩ := q1
  subst ex
  cases r1 with
  | cons r rr =>
    cases rr
    cases r
    have fp : ∀ b ∈ [s1.heap.objs.size + 1, s1.heap.objs.size], s1.heap.objs.size ≤ b := fun b hb => by
      have e' : b = s1.heap.objs.size + 1 ∨ b = s1.heap.objs.size := by simpa using hb
      rcases e' with z | z
      · rw [z]; exact Nat.le_add_right _ _
      · rw [z]; exact Nat.le_refl _
    rcases q with ⟨hq, q⟩ | ⟨hq, q⟩
    · obtain ⟨its, rv, p', hz⟩ := I1.list hq
      refine call_enumerate_list p'.isList fun h' he hit hsz hk => wpAny_pyIter_enum he ?_
      have I2 : Inv X pins σ H1 { s1 with heap := h' } := I1.kept (t' := s1.toks) hk
      exact ⟨s1.heap.objs.size + 1, [s1.heap.objs.size + 1, s1.heap.objs.size], _, _, H1, rfl, I2, turn_enum a (s1.heap.objs.size + 1) s1.heap.objs.size, ⟨⟨.none, he⟩, hit, Nat.succ_ne_self _⟩, fun b hb => I1.fpOk (fp b hb) (I1.hok.fresh (fp b hb)), q⟩
    · obtain ⟨its, rv, p', hz⟩ := I1.tuple hq
      refine call_enumerate_tup (show s1.heap.IsTuple a its.toArray from p') fun h' he hit hk => wpAny_pyIter_enum he ?_
      have I2 : Inv X pins σ H1 { s1 with heap := h' } := I1.kept (t' := s1.toks) hk
      exact ⟨s1.heap.objs.size + 1, [s1.heap.objs.size + 1, s1.heap.objs.size], _, _, H1, rfl, I2, turn_enumt a xs (s1.heap.objs.size + 1) s1.heap.objs.size, ⟨⟨.none, he⟩, hit, Nat.zero_le _, Nat.succ_ne_self _⟩, fun b hb => I1.fpOk (fp b hb) (I1.hok.fresh (fp b hb)), q⟩
theorem w_enumt {K : PySem.W.Frag} {CT : Cts} {m0 : Nat → Addr} {N0 : Nat} {G0 : Hp} {a : Addr} {xs : List PV} {vs : List V} (hT : SqT K G0 a vs) (r0 : RelL K m0 N0 G0 xs vs) : IsW K CT (Itet K a vs) ⟨enumL 0 xs, []⟩ m0 N0 G0 := by
  have hl : (enumL 0 xs).length = vs.length := by rw [enumL_len, r0.length]
  refine ⟨fun j m G H h e t l R ok hj => ⟨R.sub.sqT (t.1 _ _ hT), by rw [← hl]; exact hj⟩, fun m G H h e t l R ok => ⟨R.sub.sqT (t.1 _ _ hT), by rw [← hl]; exact Nat.le_refl _⟩, fun j m G H h x H' e t l R ok hj y => ?_⟩
  obtain ⟨T, x2, e1, hN, e2, e4⟩ := y
  subst e1 e2
  have hj' : j < xs.length := by rw [← enumL_len 0]; exact hj
  obtain ⟨w, e5, r⟩ := r0.get (List.getElem?_eq_getElem hj')
  rw [e4] at e5
  injection e5 with e5
  subst e5
  obtain ⟨p1, p2, p3⟩ := pair_rel (N := 0) R hN (.int (j : Nat)) (r.monoT e l t)
  refine ⟨_, _, enumL_get 0 xs j _ (List.getElem?_eq_getElem hj'), p1, p2, ?_, keep_two hN⟩
  rw [Nat.zero_add]
  exact p3
section
variable {X : Cx} {CT : Cts} {cl : Cl} {W : WX} {e : Expr} {c : E} {pos p : Pos}
theorem P_enumv {elts : List Expr} {kk : Nat} {tpos : Pos} (hcl : GroC cl) (hg : Gl X "enumerate") (hm : X.mg "enumerate" = none) (ha : PA X [e] (tA X.K CT cl W [c])) (hs : starEach [e] X.env = [(false, eval e X.env)]) : PI X (.Tuple elts kk tpos) (.Call (.Name "enumerate" p) [e] [] pos) (tI X.K CT cl W .enumv [c]) := PIimp (pi_enum2 hg hm ha hs) fun σ H R hI =>
  tI_first hcl hI fun xs vs h1 m1 G1 H1 i R1 rl ei q => by
    unfold itsOf at ei
    simp only at ei
    split at ei
    · rename_i x
      obtain ⟨v, rfl, rv⟩ := rl.one_inv
      unfold ofSq at ei
      split at ei
      · rename_i ys
        simp only [Option.map_some, Option.some.injEq] at ei
        subst ei
        obtain ⟨a, us, rfl, ht, rs⟩ := rv.tup_inv
        exact ⟨a, us, rfl, .inr ⟨R1.sub.sqT ht, q _ (w_enumt ht rs)⟩⟩
      · cases eo : ofLst x h1 with
        | none => rw [eo] at ei; cases ei
        | some k =>
          rw [eo] at ei
          injection ei with ei
          subst ei
          obtain ⟨a, us, rfl, hq, L⟩ := lst_its R1 rv eo
          exact ⟨a, us, rfl, .inl ⟨hq, q _ (w_enum L)⟩⟩
    · cases ei
end
section
variable {X : Cx} {CT : Cts} {W : WX}
end
section
variable {X : Cx} {CT : Cts} {cl : Cl} {W : WX} {e1 : Expr} {c1 : E} {pos : Pos}
end
section
variable {P : Program} {w : World} {K : PySem.W.Frag} {mg : Str → Option Value} {base : Heap} {cl : Cl} {k : Nat} {m : String} {ins exc : List String} {tb : List (Addr × Str)} {gh : List GF}
end
end
end Mi
set_option Elab.async false
set_option linter.all false
set_option maxRecDepth 100000
namespace Mi
open PySem PySem.Spec PyProof.Rows L2
section
variable {K : PySem.W.Frag} {CT : Cts} {m : Nat → Addr} {N : Nat} {G G' H H' : Hp} {h : PH} {D a : Addr} {acc : List (Key × V)}
theorem sqT_dropK {vs : List V} (hD : G D = some (.dK acc)) (q : SqT K G a vs) : SqT K (dropG G D) a vs := by
  rcases q with (q | ⟨o, q⟩) | q
  · exact .inl (.inl (by rw [dropG_ne (fun z => by rw [z, hD] at q; cases q)]; exact q))
  · exact .inl (.inr ⟨o, by rw [dropG_ne (fun z => by rw [z, hD] at q; cases q)]; exact q⟩)
  · exact .inr q
mutual
theorem Rel.dropK (hD : G D = some (.dK acc)) : ∀ {x : PV} {v : V}, Rel K m N G x v → Rel K m N (dropG G D) x v
  | _, _, .non => .non
  | _, _, .bl b => .bl b
  | _, _, .int i => .int i
  | _, _, .str s => .str s
  | _, _, .ref hn => .ref hn
  | _, _, .tup hs r => .tup (sqT_dropK hD hs) (RelL.dropK1 hD r)
theorem RelL.dropK1 (hD : G D = some (.dK acc)) : ∀ {x : List PV} {v : List V}, RelL K m N G x v → RelL K m N (dropG G D) x v
  | _, _, .nil => .nil
  | _, _, .cons a r => .cons (Rel.dropK hD a) (RelL.dropK1 hD r)
end
theorem RelF.dropK (hD : G D = some (.dK acc)) : ∀ {fs : List (String × PV)} {gs : List (Str × V)}, RelF K m N G fs gs → RelF K m N (dropG G D) fs gs
  | [], [], _ => trivial
  | (f, x) :: r, (g, v) :: s, ⟨a, b, c⟩ => ⟨a, b.dropK hD, RelF.dropK hD c⟩
theorem RelD.dropK (hD : G D = some (.dK acc)) : ∀ {fs : List (PV × PV)} {gs : List (Key × V)}, RelD K m N G fs gs → RelD K m N (dropG G D) fs gs
  | [], [], _ => trivial
  | (f, x) :: r, (g, v) :: s, ⟨a, b, c⟩ => ⟨a, b.dropK hD, RelD.dropK hD c⟩
theorem RelT.dropK (hD : G D = some (.dK acc)) : ∀ {fs : List (PV × PV)} {gs : List (NestedKey × Addr × V)}, RelT K m N G fs gs → RelT K m N (dropG G D) fs gs
  | [], [], _ => trivial
  | (f, x) :: r, (g, b, v) :: s, ⟨⟨a1, a2, a3⟩, b1, c⟩ => ⟨⟨a1, a2, a3.dropK hD⟩, b1.dropK hD, RelT.dropK hD c⟩
theorem OR.dropK {o : PO} (hD : G D = some (.dK acc)) (q : OR K CT m N G H a o) (k : nk o = true → H' a = H a) : OR K CT m N (dropG G D) H' a o := by
  cases o with
  | lst xs => obtain ⟨vs, q, r⟩ := q; exact ⟨vs, (k rfl).trans q, r.dropK1 hD⟩
  | frz xs =>
    obtain ⟨vs, q, r⟩ := q
    refine ⟨vs, ?_, r.dropK1 hD⟩
    rcases q with ⟨o, q⟩ | q
    · exact .inl ⟨o, by rw [dropG_ne (fun z => by rw [z, hD] at q; cases q)]; exact q⟩
    · exact .inr q
  | dic kvs => obtain ⟨vs, q, r⟩ := q; exact ⟨vs, (k rfl).trans q, r.dropK hD⟩
  | dit kvs => obtain ⟨vs, q, r⟩ := q; exact ⟨vs, (k rfl).trans q, r.dropK hD⟩
  | ldc kvs => obtain ⟨od, ks, q, r⟩ := q; exact ⟨od, ks, by rw [dropG_ne (fun z => by rw [z, hD] at q; cases q)]; exact q, r.dropK hD⟩
  | ldt kvs => obtain ⟨od, ks, q, r⟩ := q; exact ⟨od, ks, by rw [dropG_ne (fun z => by rw [z, hD] at q; cases q)]; exact q, r.dropK hD⟩
  | ins c fs => obtain ⟨C, dx, gs, ct, q, r⟩ := q; exact ⟨C, dx, gs, ct, (k rfl).trans q, r.dropK hD⟩
  | exn c fs =>
    obtain ⟨C, d, ct, q, r⟩ := q
    have nl : ∀ a, EXO (.ref C) d a ≠ .dK acc := fun a z => by
      have z' : HO.ext _ = HO.dK acc := z
      cases z'
    refine ⟨C, d, ct, by rw [dropG_ne (fun z => by rw [z, hD] at q; exact nl _ (Option.some.inj q).symm)]; exact q, ?_⟩
    rcases r with r | ⟨dd, gs, h1, h2, h3⟩
    · exact .inl r
    · exact .inr ⟨dd, gs, h1, by rw [dropG_ne (fun z => by rw [z, hD] at h2; cases h2)]; exact h2, h3.dropK hD⟩
  | lam => trivial
theorem code_nK {c : Addr} {q : Str} : LamX.CodeO c q ≠ .dK acc := fun z => by
  have z' : HO.ext _ = HO.dK acc := z
  cases z'
theorem Xt.dropK (x : Xt K CT m N G H) (hD : G D = some (.dK acc)) (hl : H D = some (.dK acc)) (hH : ∀ b, b ≠ D → H' b = H b) : Xt K CT m N (dropG G D) H' := by
  have cd : ∀ {c : Addr} {q : Str}, G c = some (LamX.CodeO c q) → dropG G D c = some (LamX.CodeO c q) := fun {c q} e => by
    rw [dropG_ne (fun z => by rw [z, hD] at e; exact code_nK (Option.some.inj e).symm)]
    exact e
  refine ⟨fun y hy => ?_, fun p hp => ?_, fun b ps e => ?_⟩
  · obtain ⟨h1, h2, h3, h4, h5⟩ := x.gh y hy
    exact ⟨h1, h2, cd h3, h4, fun i z e => let ⟨v, e1, e2⟩ := h5 i z e; ⟨v, e1, e2.dropK hD⟩⟩
  · obtain ⟨h1, ps, h2, h3, h4⟩ := x.tb p hp
    have ne : p.1 ≠ D := fun z => by
      rw [z, hl] at h2
      cases h2
    exact ⟨by rw [dropG_ne ne]; exact h1, ps, by rw [hH _ ne]; exact h2, h3, fun pos cv e => let ⟨c, e1, e2⟩ := h4 pos cv e; ⟨c, e1, cd e2⟩⟩
  · by_cases hb : b = D
    · rw [hb, dropG_eq] at e
      cases e
    · rw [dropG_ne hb] at e
      exact x.gt b ps e
end
structure LkSt (K : PySem.W.Frag) (CT : Cts) (m : Nat → Addr) (G H : Hp) (h : PH) (D : Addr) (acc : List (Key × V)) : Prop where
  R : HR K CT m G H h
  g : G D = none
  d : H D = some (.dK acc)
  n : ∀ i o, h[i]? = some o → nk o = true → m i ≠ D
def ContK (K : PySem.W.Frag) (CT : Cts) (D : Addr) (m : Nat → Addr) (G : Hp) (N : Nat) (kvs : List (PV × PV)) (Nx : Hp → Prop) : R (List PV) → Prop
  | .ok zs h' => ∀ m' G' H' ks, Ex m m' N → Sub G G' → LkSt K CT m' G' H' h' D ks → RelD K m' h'.length G' (putTs kvs zs) ks → Nx H'
  | _ => False
theorem ContK.later {K : PySem.W.Frag} {CT : Cts} {D : Addr} {m m1 : Nat → Addr} {G G1 : Hp} {N N1 : Nat} {kvs : List (PV × PV)} {Nx : Hp → Prop} {r : R (List PV)} (p : ContK K CT D m G N kvs Nx r) (e : Ex m m1 N) (l : N ≤ N1) (t : Sub G G1) : ContK K CT D m1 G1 N1 kvs Nx r := by
  cases r with
  | ok zs h' => exact fun m' G' H' ks e1 e2 => p m' G' H' ks (e.trans e1 l) (t.trans e2)
  | exc x h' => exact p
  | bad => exact p
section
variable {X : Cx} {CT : Cts} {cl : Cl} {W : WX} {tg : Expr} {cs : List E} {pos : Pos}
end
end Mi
set_option Elab.async false
set_option linter.all false
set_option maxRecDepth 100000
namespace Mi
open PySem PySem.Spec PyProof.Rows L2
section
variable {X : Cx} {CT : Cts} {cl : Cl} {W : WX} {e1 e2 e3 : Expr} {c1 c2 c3 : E} {pos p p2 pos2 : Pos}
end
end Mi
set_option Elab.async false
set_option linter.all false
set_option maxRecDepth 100000
namespace Mi
open PySem PySem.Spec PyProof.Rows L2
section
variable {X : Cx} {CT : Cts} {cl : Cl} {W : WX} {e : Expr} {c : E} {pos p apos cpos : Pos}
end
end Mi
set_option Elab.async false
set_option linter.all false
set_option maxRecDepth 100000
namespace He
open PySem
section
variable {prog : Program} {w : World} {A : Around} {Er : Value → Shared → Prop} {z : Shared} {a TI TO i1 i2 : Addr} {F1 F2 : List Addr} {n1 n2 k : Nat} {P1 P2 : Nat → Value → Prop} {B1 B2 : Nat → Heap → Prop} {u1 u2 c f : Value}
/-- is the tuple free? -/
inductive Fre (h : Heap) (c : Value) : Bool → Prop where
  | none : c = .none → Fre h c true
  | dead (T : Addr) : c = rawInt T → h.get? T = Option.none → Fre h c true
  | held (T : Addr) (o : Obj) : c = rawInt T → h.get? T = some o → Fre h c false
end
end He
set_option Elab.async false
set_option linter.all false
set_option maxRecDepth 100000
namespace Mi
open PySem PySem.Spec PyProof.Rows L2
/-- what a zip draws from -/
inductive SrcK where
  | l (a : Addr) | t (a : Addr) | s (x : Str)
def SrcK.lt (N : Addr) : SrcK → Prop
  | .l a => a < N
  | .t a => a < N
  | .s _ => True
def SrcK.rd : SrcK → Addr → Nat → Heap → Prop
  | .l a, it, i, h => h.IsListIter it a i
  | .t a, it, i, h => h.IsTupleIter it a i
  | .s x, it, i, h => ∃ u, h.IsStrIter it (strIterType x) x u i
/-- the i-th -/
def SrcK.vl (K : PySem.W.Frag) : SrcK → Hp → Nat → V → Prop
  | .l a, H, i, v => ∀ xs, SqL K H a xs → xs[i]? = some v
  | .t a, H, i, v => ∀ xs, SqT K H a xs → xs[i]? = some v
  | .s x, H, i, v => ∃ c, x.cps[i]? = some c ∧ v = .str ⟨#[c]⟩
def SrcK.sz (K : PySem.W.Frag) : SrcK → Hp → Nat → Prop
  | .l a, H, n => ∃ xs, SqL K H a xs ∧ n = xs.length
  | .t a, H, n => ∃ xs, SqT K H a xs ∧ n = xs.length
  | .s x, H, n => n = x.cps.size
section
variable {X : Cx} {pins : List (Addr × Obj)} {σ : L2.St} {H : Hp} {s : Shared}
end
section
variable {X : Cx}
/-- what an argument is to a zip -/
def SrcK.of (K : PySem.W.Frag) (H : Hp) : SrcK → V → Prop
  | .l a, v => v = .ref a ∧ ∃ xs, SqL K H a xs
  | .t a, v => v = .ref a ∧ ∃ xs, SqT K H a xs
  | .s x, v => v = .str x
theorem SrcK.begins {k : SrcK} {pins : List (Addr × Obj)} {σ : L2.St} {H : Hp} {s : Shared} {v : V} {u : Value} (I : Inv X pins σ H s) (h : k.of X.K H v) (r : RelV v u) :
    ∃ o B, Begins u o B ∧ B s.heap ∧ k.lt s.heap.objs.size ∧ ∀ it (g : Heap), g.get? it = some o → k.rd it 0 g := by
  cases k with
  | l a =>
    obtain ⟨rfl, xs, hq⟩ := h
    obtain rfl : u = .ref a := r
    obtain ⟨its, rv, p, _⟩ := I.list hq
    exact ⟨_, _, begins_list a its.toArray, p.isList, p.lt, fun it g e => ⟨_, e, rfl, rfl⟩⟩
  | t a =>
    obtain ⟨rfl, xs, hq⟩ := h
    obtain rfl : u = .ref a := r
    obtain ⟨its, rv, p, _⟩ := I.tuple hq
    exact ⟨_, _, begins_tuple a its.toArray, p, (by obtain ⟨o, e, _⟩ := p; exact Heap.lt_size e), fun it g e => ⟨_, e, rfl, rfl⟩⟩
  | s x =>
    obtain rfl := h
    obtain ⟨t, rfl⟩ := r
    exact ⟨_, _, begins_text x t, trivial, trivial, fun it g e => ⟨t, _, e, rfl, rfl⟩⟩
end
end Mi
set_option Elab.async false
set_option linter.all false
set_option maxRecDepth 100000
namespace Mi
open PySem PySem.Spec PyProof.Rows L2
section
variable {K : PySem.W.Frag} {CT : Cts} {m0 : Nat → Addr} {N0 : Nat} {G0 : Hp}
end
section
variable {X : Cx} {CT : Cts} {cl : Cl} {W : WX}
end
end Mi
set_option Elab.async false
set_option linter.all false
set_option maxRecDepth 100000
namespace Mi
open PySem PySem.Spec PyProof.Rows L2
section
variable {X : Cx}
end
section
variable {K : PySem.W.Frag} {CT : Cts} {m0 : Nat → Addr} {N0 : Nat} {G0 : Hp}
end
section
variable {X : Cx} {CT : Cts} {cl : Cl} {W : WX}
end
end Mi
set_option Elab.async false
set_option linter.all false
set_option maxRecDepth 100000
namespace Mi
open PySem PySem.Spec PyProof.Rows L2
section
variable {prog : Program} {w : World} {K : Type} [DecidableEq K] {knd : HeapKind prog w K} {A : Around} {E : Value → Shared → Prop} {s : Shared} {env : PySem.Env}
end
section
variable {X : Cx} {CT : Cts} {cl : Cl} {W : WX} {pos : Pos}
end
end Mi
set_option Elab.async false
set_option linter.all false
set_option maxRecDepth 100000
namespace Mi
open PySem PySem.Spec PyProof.Rows L2
section
variable {K : PySem.W.Frag} {CT : Cts} {m : Nat → Addr} {G H : Hp} {h : PH}
end
section
variable {K : PySem.W.Frag} {CT : Cts} {m0 : Nat → Addr} {N0 : Nat} {G0 : Hp}
section
variable {n : Nat} {kvs : List (PV × PV)} {od : Obj} {ks : List (Key × V)}
end
end
end Mi
set_option Elab.async false
set_option linter.all false
set_option maxRecDepth 100000
namespace He
open PySem PyProof.Rows SrtO Srt
section
variable {prog : Program} {w : World} {A : Around} {E : Value → Shared → Prop} {s : Shared}
def IsIS (h : Heap) (v : Value) (p : Int × List Nat) : Prop := ∃ a o t y u n, v = .ref a ∧ h.get? a = some o ∧ o.cls = .type "tuple" ∧ o.data = .seq #[.int p.1 t, .str y u] n ∧ y.cps.toList = p.2
theorem IsIS.keeps {h h' : Heap} {v : Value} {p : Int × List Nat} (i : IsIS h v p) (k : ∀ b o, h.get? b = some o → o.cls = .type "tuple" → h'.get? b = some o) : IsIS h' v p := by
  obtain ⟨a, o, t, y, u, n, e, ho, hc, hd, hy⟩ := i
  exact ⟨a, o, t, y, u, n, e, k a o ho hc, hc, hd, hy⟩
end
section
variable {α β : Type}
variable {lt : α → α → Bool}
end
end He
set_option Elab.async false
set_option linter.all false
set_option maxRecDepth 100000
namespace Mi
open PySem PySem.Spec PyProof.Rows L2
section
variable {X : Cx}
end
section
variable {X : Cx} {CT : Cts} {cl : Cl} {W : WX} {K : PySem.W.Frag}
end
end Mi
set_option Elab.async false
set_option linter.all false
set_option maxRecDepth 100000
namespace Mi
open PySem PySem.Spec PyProof.Rows L2
section
variable {nh : NestedKey → Int}
/-- the operator's name in the model -/
abbrev mnO (o : BOp) : Str := PySem.dunder (boOp o).info.2
abbrev mnR (o : BOp) : Str := dunderR (boOp o).info.2
/-- what must be known of a class whose operator it is -/
structure ObC (K : PySem.W.Frag) (o : BOp) (C : Addr) : Prop where
  own : PySem.W.selfFirst K C = true
  rv : ∃ rc, PySem.W.findIn K (.ref C) (mnR o) = some rc ∧ (rc = none ∨ ∃ g : Addr, rc = some (.ref g))
  bt : ∀ n, n ∈ bTys → ∃ fo ro, PySem.W.findIn K (.type n) (mnO o) = some fo ∧ PySem.W.findIn K (.type n) (mnR o) = some ro ∧ PySem.W.subIn K (.type n) (.ref C) = some false
end
section
variable {prog : Program} {w : World} {A : Around} {E : Value → Shared → Prop} {s : Shared} {K : PySem.W.Frag} {x C f : Addr} {ox : Obj} {od : Option Obj} {b : Value} {Q : Value → Shared → Prop}
end
section
variable {X : Cx} {CT : Cts} {cl : Cl} {W : WX} {k : Nat}
variable {e1 e2 : Expr} {c1 c2 : E} {pos : Pos}
end
section
variable {nh : NestedKey → Int}
end
end Mi
set_option Elab.async false
set_option linter.all false
set_option maxRecDepth 100000
namespace Mi
open PySem PySem.Spec PyProof.Rows L2
section
variable {X : Cx} {CT : Cts} {cl : Cl} {W : WX} {pos : Pos}
end
section
variable {X : Cx} {pins : List (Addr × Obj)} {σ : L2.St} {H : Hp} {s : Shared} {nh : NestedKey → Int} {a b : Addr} {xs : List (NestedKey × Addr × V)} {k : NestedKey} {A : Around} {E : Value → Shared → Prop} {d : V} {r : Value}
end
section
variable {X : Cx} {CT : Cts} {cl : Cl} {W : WX} {o e : Expr} {es : List Expr} {c : E} {cs : List E} {apos cpos : Pos}
end
section
variable {X : Cx} {CT : Cts} {W : WX}
end
end Mi
set_option Elab.async false
set_option linter.all false
set_option maxRecDepth 100000
namespace Mi
open PySem PySem.Spec PyProof.Rows L2
open PySem.AutoSeq1 (wpAny_loadPart')
open PySem.MeetsSeq PySem.MeetsSeq2 PySem.MeetsSeq3 PySem.SeqRoads2 PySem.SeqAt
section
variable {prog : Program} {w : World} {A : Around} {E : Value → Shared → Prop} {l : Addr} {x : Value} {N : Nat} {T I : Nat → Shared → Prop} {R : Result → Shared → Prop}
/-- each turn reads the list anew -/
def TurnI (prog : Program) (w : World) (A : Around) (E : Value → Shared → Prop) (l : Addr) (x : Value) (N : Nat) (T I : Nat → Shared → Prop) : Prop :=
  ∀ i s, I i s → ∃ (items : Array Value) (n : Nat) (dd : Option Addr) (sl : Array (Option Value)), s.heap.get? l = some { cls := .type "list", dict := dd, data := .seq items n, slots := sl } ∧ items.size = N ∧
    ∀ (h1 : i < items.size), wpAny (model prog w) A.in1 (eqBool items[i] x) (fun r s' => (r = true ∧ T i s') ∨ (r = false ∧ I (i + 1) s')) E s
theorem ix_loop (upto : Int) (hu : (N : Int) ≤ upto) (tn : TurnI prog w A (fun e s' => R (.error e) s') l x N T I) (ft : ∀ (i : Nat) s, T i s → R (.ok (.ret (.int i s.toks))) { s with toks := s.toks + 1 }) (ff : ∀ s, I N s → False) (k : Nat) : ∀ i : Nat, N - i = k → i ≤ N → ∀ s, I i s →
    wpAny (model prog w) A.in1 (Builtin.«list.index.loop» ⟨[.ref l, x, rawInt i, rawInt upto], []⟩) (GQ.FinOf prog w A R) (fun e s' => R (.error e) s') s := by
  induction k with
  | zero =>
    intro i hk hi s h
    have hi' : i = N := by omega
    exact (ff s (hi' ▸ h)).elim
  | succ k ih =>
    intro i hk hi s h
    obtain ⟨items, n, dd, sl, hl, hs, turn⟩ := tn _ _ h
    have lt : i < items.size := by omega
    have one := turn lt
    obtain ⟨hp, g, d, tk, os⟩ := s
    wp_walk using wpAny_loadPart' hl
    have lu : (i : Int) < upto := by omega
    have e : (if (i : Int) < upto then items[((i : Nat) : Int).toNat]? else none) = some items[i] := by simp [lu, lt]
    have hc : ((i : Int) + 1) = ((i + 1 : Nat) : Int) := by omega
    rw [e]
    refine wpAny_bind (wpAny_mono one (fun r s2 h2 => ?_) fun _ _ z => z)
    rcases h2 with ⟨rfl, h2⟩ | ⟨rfl, h2⟩
    · have fin := ft i s2 h2
      obtain ⟨hp2, g2, d2, tk2, os2⟩ := s2
      wp_walk
      exact fin
    · have go9 := ih (i + 1) (by omega) (by omega) s2 h2
      obtain ⟨hp2, g2, d2, tk2, os2⟩ := s2
      wp_walk
      rw [hc]
      exact ⟨plainId_quiet plain_index_loop _, codeAny_builtin entry_index_loop (by
        rw [Around.under_plainId plain_index_loop _]
        exact go9)⟩
theorem ix_list (hN : N ≤ sizeLine) (tn : TurnI prog w A (fun e s' => R (.error e) s') l x N T I) (ft : ∀ (i : Nat) s, T i s → R (.ok (.ret (.int i s.toks))) { s with toks := s.toks + 1 }) (ff : ∀ s, I N s → False) {s : Shared} (h : I 0 s) :
    wpAny (model prog w) A.in1 (Builtin.«list.index» ⟨[.ref l, x], []⟩) (GQ.FinOf prog w A R) (fun e s' => R (.error e) s') s := by
  obtain ⟨items, n, dd, sl, hl, hs, _⟩ := tn _ _ h
  have go9 := ix_loop (2 ^ 63 - 1) (by rw [sizeLine_eq] at hN; omega) tn ft ff _ 0 rfl (Nat.zero_le _) s h
  obtain ⟨hp, g, d, tk, os⟩ := s
  wp_walk using wpAny_loadPart' hl
  have a1 : ((fun i : Int => if i < 0 then max 0 (i + (items.size : Int)) else i) ((none : Option Int).getD 0)) = ((0 : Nat) : Int) := by simp
  have a2 : ((fun i : Int => if i < 0 then max 0 (i + (items.size : Int)) else i) ((none : Option Int).getD (2 ^ 63 - 1))) = 2 ^ 63 - 1 := by simp
  rw [a1, a2]
  exact ⟨plainId_quiet plain_index_loop _, codeAny_builtin entry_index_loop (by
    rw [Around.under_plainId plain_index_loop _]
    exact go9)⟩
end
section
variable {X : Cx} {CT : Cts} {cl : Cl} {W : WX} {k : Nat}
variable {e1 e2 : Expr} {c1 c2 : E} {pos : Pos}
variable {o e : Expr} {c : E} {apos cpos : Pos}
end
section
variable {X : Cx} {CT : Cts} {W : WX}
end
end Mi
set_option Elab.async false
set_option linter.all false
set_option maxRecDepth 100000
namespace He
open PySem PySem.SeqAt
open AutoSeq1 (wpAny_loadPart')
open MeetsSeq MeetsSeq2 MeetsSeq3 SeqRoads2
section
variable {prog : Program} {w : World} {A : Around} {R : Result → Shared → Prop}
end
section
variable {prog : Program} {w : World} {A : Around} {E : Value → Shared → Prop} {s : Shared}
end
end He
set_option Elab.async false
set_option linter.all false
set_option maxRecDepth 100000
namespace Mi
open PySem PySem.Spec PyProof.Rows L2
open PySem.MeetsSeq PySem.MeetsSeq2 PySem.MeetsSeq3 PySem.SeqRoads2 PySem.SeqAt
section
variable {X : Cx} {CT : Cts} {cl : Cl} {W : WX} {k : Nat}
variable {e1 e2 : Expr} {c1 c2 : E} {pos : Pos}
end
end Mi
set_option Elab.async false
set_option linter.all false
set_option maxRecDepth 100000
namespace Mi
open PySem PySem.Spec PyProof.Rows L2
section
variable {X : Cx} {CT : Cts} {cl : Cl} {W : WX} {e : Expr} {c : E} {pos p p2 q2 : Pos}
end
end Mi
set_option Elab.async false
set_option linter.all false
set_option maxRecDepth 100000
namespace Mi
open PySem PySem.Spec PyProof.Rows L2
section
variable {X : Cx} {CT : Cts} {cl : Cl} {W : WX} {e : Expr} {c : E} {pos p p2 q2 : Pos}
theorem ints_keysD : ∀ {vs : List (Key × Value)} {ks : List Int} {us : List Value}, vs.map (·.1) = ks.map Sum.inl → us.length = vs.length →
    (∀ (j : Nat) (u : Value), us[j]? = some u → ∃ k x, vs[j]? = some (k, x) ∧ keyIs k u = true) → IntsAre us ks := by
  intro vs ks us hk
  induction us generalizing vs ks with
  | nil =>
    intro hl _
    cases vs with
    | nil =>
      cases ks with
      | nil => exact .nil
      | cons _ _ => cases hk
    | cons _ _ => cases hl
  | cons u us ih =>
    intro hl h
    match vs, ks, hk, hl with
    | (k, x) :: vs, i :: ks, hk, hl =>
      simp only [List.map_cons, List.cons.injEq] at hk
      obtain ⟨rfl, hk⟩ := hk
      obtain ⟨k', x', a, is⟩ := h 0 u rfl
      obtain rfl : Sum.inl i = k' := congrArg Prod.fst (Option.some.inj a)
      rcases keyIs_shape is with ⟨n, t, en, rfl⟩ | ⟨z, t, en, _⟩
      · cases en
        exact .cons _ _ (ih hk (Nat.succ.inj hl) fun j v e => h (j + 1) v e)
      · cases en
theorem laid_sortedI {pins : List (Addr × Obj)} {σ : L2.St} {H : Hp} {s : Shared} {us : List Value} {ks ns : List Int} {out : Array Value} (I : Inv X pins σ H s) (pm : ns.Perm ks) (few : ks.length < 64) (is : IntsAre out.toList ns) :
    H s.heap.objs.size = none ∧ Inv X pins σ (upd H s.heap.objs.size (.lst (ns.map V.int))) { s with heap := sortedHeap (s.heap.push (seqObj "list" us.toArray 0)) s.heap.objs.size us out } := by
  have own : (s.heap.push (seqObj "list" us.toArray 0)).get? s.heap.objs.size = some (seqObj "list" us.toArray 0) := Heap.get?_push_size _ rfl
  obtain ⟨ep, at1⟩ := sortedHeap_at (vs := us) (out := out) own
  have le : (ns.map V.int).length ≤ sizeLine := by
    have := pm.length_eq
    rw [List.length_map, this, sizeLine_eq]
    exact Nat.le_of_lt (Nat.lt_trans few (by decide))
  have ob : ObjOk X.prog X.w (upd H s.heap.objs.size (.lst (ns.map V.int))) (sortedHeap (s.heap.push (seqObj "list" us.toArray 0)) s.heap.objs.size us out) s.heap.objs.size (.lst (ns.map V.int)) := by
    refine ⟨le, out.toList, ep, vals_of_ints is, ?_⟩
    rwa [Array.toArray_toList]
  refine ⟨I.hok.fresh (Nat.le_refl _), I.laid (t' := s.toks) (fun b o e => ?_) (Nat.le_refl _) ob⟩
  have lt := Heap.lt_size e
  exact (sortedHeap_old (Nat.ne_of_lt lt) (by rw [size_push']; exact Nat.lt_succ_of_lt lt)).trans (Heap.get?_push_of_some _ e)
theorem cr_sortedDI (hcalm : X.calm = true) : CallR X (.builtin "sorted") (fun xs H Q => ∃ (a : Addr) (kvs : List (Key × V)) (ks : List Int), xs = [.ref a] ∧ Rd H a (.dK kvs) ∧ kvs.map (·.1) = ks.map Sum.inl ∧ ks.length < 64 ∧
    ∀ (ys : List Int) p, ys.Perm ks → ys.Pairwise (· ≤ ·) → H p = none → Q (.ref p) (upd H p (.lst (ys.map V.int)))) := by
  rintro pins s σ H xs us Q I r ⟨a, kvs, ks, rfl, rd, ek, few, q⟩
  obtain ⟨_, rfl, rx⟩ := vals1 r
  cases rx
  obtain ⟨_, lo, vs, rel, tab⟩ := dk_rd I.hok rd
  obtain ⟨ep, at0⟩ := tab.dictAt
  have mk : vs.map (·.1) = ks.map Sum.inl := by rw [← rel.keys, ek]
  have len : vs.length = ks.length := by simpa using congrArg List.length mk
  have fits : vs.length ≤ sizeLine := by
    rw [sizeLine_eq]
    omega
  refine Calls.call_function_entry kind_sorted plain_sorted entry_sorted (args_sorted1 _) ?_
  unfold Builtin.«sorted»
  refine wpAny_bind (m := checkCount "sorted" 1 1 _) (wpAny_pure (wpAny_bind ?_))
  refine PySem.W.kdu_collect (PySem.W.kdl_dict (knd := mixKind X.prog X.w) (kvs := vs) (ep := ep) lo) (I.ok.hd hcalm) at0 fits fun g tk acc kp got => ?_
  have hI : IntsAre acc.toList ks := ints_keysD mk (by rw [Array.length_toList, got.1]) fun j u e => by
    obtain ⟨k, x, e1, e2⟩ := got.2 j u (by rwa [Array.getElem?_toList] at e)
    exact ⟨k, x, e1, e2⟩
  have short : acc.toList.length = ks.length := by rw [Array.length_toList, got.1, len]
  have J : Inv X pins σ H { s with heap := g, toks := tk } := I.kept kp
  refine wpAny_bind (wpAny_newList ?_ (by rw [short, sizeLine_eq]; omega))
  have own : (g.push (seqObj "list" acc.toList.toArray 0)).get? g.objs.size = some (seqObj "list" acc.toList.toArray 0) := Heap.get?_push_size _ rfl
  refine wpAny_bind (wpAny_holding (wpAny_call_entry slot_list_sort ⟨_, own, rfl⟩ entry_list_sort (list_sort_tree own hI (by omega) fun out ns as' pm as => ⟨_, rfl, ?_⟩) (args_list_sort _)))
  obtain ⟨new, L⟩ := laid_sortedI (us := acc.toList) J pm few as'
  exact wpAny_pure ⟨_, rfl, .ref g.objs.size, _, L, rfl, q ns _ pm as new⟩
theorem kV_ints : ∀ {gs : List (Key × V)} {ns : List Int}, (gs.map fun kv => kV kv.1) = ns.map V.int → gs.map (·.1) = ns.map Sum.inl
  | [], [], _ => rfl
  | [], _ :: _, h => by simp at h
  | _ :: _, [], h => by simp at h
  | (k, v) :: gs, n :: ns, h => by
    simp only [List.map_cons, List.cons.injEq] at h ⊢
    refine ⟨?_, kV_ints h.2⟩
    cases k with
    | inl i =>
      have := h.1
      injection this with this
      rw [this]
    | inr s => cases h.1
theorem call_sortedD_b (hc : X.calm = true) : CallR X (.builtin "sorted") (rBl X.K CT W "sorted dict") := by
  refine CallR.imp (cr_sortedDI hc) fun xs H Q ⟨m, G, h, pvs, σ, R, rl, q⟩ => ?_
  simp only [bltV] at q
  split at q
  · rename_i v
    obtain ⟨u, rfl, ru⟩ := rl.one_inv
    split at q
    · rename_i ns en
      split at q
      · rename_i few
        cases ek : dkeys v h with
        | none => rw [ek] at en; cases en
        | some ks =>
          rw [ek] at en
          unfold dkeys at ek
          split at ek
          · rename_i n
            obtain ⟨rfl, hn⟩ := ru.ref_inv
            split at ek
            · rename_i kvs e0
              injection ek with ek
              subst ek
              obtain ⟨gs, hH, rd⟩ := R.dic e0
              have e1 := ints_rel (keys_rel rd) en
              have e2 := kV_ints e1.1
              refine ⟨_, gs, ns, rfl, Rd.of hH, e2, few, fun ys p pm as hp => ?_⟩
              rw [asc_one (pm.trans (sortI_perm ns).symm) as (sortI_asc ns)]
              exact Post.newL q R (rel_ints _) hp
            · cases ek
          · cases ek
      · exact q.elim
    · exact q.elim
  · exact q.elim
end
end Mi
set_option Elab.async false
set_option linter.all false
set_option maxRecDepth 100000
namespace Mi
open PySem PySem.W PySem.Spec PyProof.Rows HandSHeadRun
section
variable {r : OpenRow} {q : Program} {M n : Nat} {loose : List PySem.Str} {w : World} {xs : XSP} {fa fa2 : List He.Fa} {fn : List He.DefD} {ts : List He.Tab}
noncomputable def KfT (n : Nat) (s : SharedT) : PySem.W.Frag := He.frG (HandSHeadRun.getT s) (sysModules :: PySem.cStatics :: He.asD (HandSHeadRun.getT s) n)
noncomputable def partA (r : OpenRow) (q : Program) (loose : List PySem.Str) (w : World) (s : SharedT) := (looksF r.prog (boot_heap w.params) s.abs, seenQ q loose (importedModules r.prog.main.body) (fun s => xlAt q [] s && recOk r.toRowW.records s) s.abs)
noncomputable def partB (n : Nat) (xs : XSP) (s : SharedT) : Bool × List He.FnW := ((xs.bs.all fun f => f (KfT n s)) && xs.ps.all fun d => okG2 (KfT n s) d, xs.ps.map fun d => fnWP (KfT n s) d.at_)
noncomputable def partC (n : Nat) (fa : List He.Fa) (s : SharedT) : Bool := fa.all fun f => f.ok (KfT n s)
noncomputable def partD (n : Nat) (fn : List He.DefD) (ts : List He.Tab) (s : SharedT) := (fn.all fun d => d.ok (KfT n s), fn.map fun d => He.fnW (KfT n s) d.at_, ts.map fun t => He.dicW (KfT n s) (t.1 (KfT n s)))
end
end Mi
set_option Elab.async false
set_option linter.all false
set_option maxRecDepth 100000
namespace Mi
open PySem PySem.W PySem.Spec PyProof.Rows HandSHeadRun
section
variable {r : OpenRow} {q : Program} {M n : Nat} {loose : List PySem.Str} {w : World} {xs : XSP} {fa fa2 : List He.Fa} {fn : List He.DefD} {ts : List He.Tab} {mks : List String} {kf : SharedT → PySem.W.Frag}
noncomputable def KfL (n : Nat) (s : SharedT) : PySem.W.Frag := frL (HandSHeadRun.getT s) n
noncomputable def partBL (kf : SharedT → PySem.W.Frag) (xs : XSP) (s : SharedT) : Bool × List He.FnW := ((xs.bs.all fun f => f (kf s)) && xs.ps.all fun d => okG2 (kf s) d, xs.ps.map fun d => fnWP (kf s) d.at_)
noncomputable def partCL (kf : SharedT → PySem.W.Frag) (fa : List He.Fa) (s : SharedT) : Bool := fa.all fun f => f.ok (kf s)
noncomputable def partDL (kf : SharedT → PySem.W.Frag) (fn : List He.DefD) (ts : List He.Tab) (s : SharedT) := (fn.all fun d => d.ok (kf s), fn.map fun d => He.fnW (kf s) d.at_, ts.map fun t => He.dicW (kf s) (t.1 (kf s)))
noncomputable def partE (n : Nat) (mks : List String) (s : SharedT) : List (Option Obj) := mks.map fun x => HandSHeadRun.getT s (pOf (KfL n s) (He.ga (KfL n s) (SO x)))
end
end Mi
set_option Elab.async false
set_option linter.all false
set_option maxRecDepth 100000
namespace Mi
open PySem PySem.W PySem.Spec PyProof.Rows HandSHeadRun
section
variable {r : OpenRow} {M n : Nat} {w : World} {xs : XSP} {fa : List He.Fa} {fn : List He.DefD} {ts : List He.Tab} {kf : SharedT → PySem.W.Frag}
end
end Mi
set_option Elab.async false
set_option linter.all false
set_option maxRecDepth 100000
namespace Mi
open PySem L2
/-- the dict as it lies -/
structure DAt (h : Heap) (d : Addr) (o : Obj) (es : Array DictEntry) (ep : Nat) (xs : List (NestedKey × Addr × V)) : Prop where
  get : h.get? d = some o
  ex : o.ExactDict
  data : o.data = .dict es ep
  size : es.size = xs.length
  ent : ∀ (i : Nat) (x : NestedKey × Addr × V), xs[i]? = some x → ∃ hi : i < es.size, es[i].key = .ref x.2.1 ∧ RelV x.2.2 es[i].val
section
variable {X : Cx} {pins : List (Addr × Obj)} {σ : L2.St} {H : Hp} {s : Shared} {nh : NestedKey → Int} {d : Addr} {o : Obj} {xs : List (NestedKey × Addr × V)}
end
section
variable {P : Program} {w : World} {K : PySem.W.Frag} {tg : Expr} {d : Addr} {o : Obj} {es : Array DictEntry} {ep : Nat} {nh : NestedKey → Int}
end
section
variable {X : Cx} {tg e : Expr} {td : TE} {apos cpos : Pos} {nh : NestedKey → Int}
end
end Mi
set_option Elab.async false
set_option linter.all false
set_option maxRecDepth 100000
namespace Mi
open PySem PySem.Spec PyProof.Rows L2
section
variable {K : PySem.W.Frag} {CT : Cts} {m : Nat → Addr} {G H : Hp} {h : PH}
end
section
variable {X : Cx} {CT : Cts} {cl : Cl} {W : WX}
end
section
variable {K : PySem.W.Frag} {CT : Cts} {m0 : Nat → Addr} {N0 : Nat} {G0 : Hp}
theorem RelT.monoT {m m' : Nat → Addr} {N N' : Nat} {G G' : Hp} (e : Ex m m' N) (l : N ≤ N') (t : SubT K G G') : ∀ {kvs : List (PV × PV)} {ks : List (NestedKey × Addr × V)}, RelT K m N G kvs ks → RelT K m' N' G' kvs ks
  | [], [], _ => trivial
  | (_, _) :: _, (_, _, _) :: _, ⟨⟨h0, h1, h2⟩, h3, h4⟩ => ⟨⟨h0, h1, h2.monoT e l t⟩, h3.monoT e l t, h4.monoT e l t⟩
section
variable {n : Nat} {kvs : List (PV × PV)} {od : Obj} {ks : List (NestedKey × Addr × V)}
end
end
section
variable {X : Cx} {tg e : Expr} {td : TE} {apos cpos : Pos} {nh : NestedKey → Int}
end
section
variable {X : Cx} {CT : Cts} {cl : Cl} {W : WX}
end
end Mi
set_option Elab.async false
set_option linter.all false
set_option maxRecDepth 100000
namespace Mi
open PySem PySem.Spec PyProof.Rows L2
theorem compTurnS_out (elt t0 i0 t1 i1 : Expr) (ifs0 ifs1 : List Expr) (scope : Scope) (pos : Pos) (it acc : Value) (env : PySem.Env) :
    compTurn (.SetComp elt [⟨t0, i0, ifs0, 0⟩, ⟨t1, i1, ifs1, 0⟩] scope pos) 0 it acc env = (do
      standAt i0.pos
      match ← pyNext it with
      | none => pure (.done .next)
      | some v =>
        letOwnedTupleGo t0 it v
        assign t0 env v
        let mut ok := true
        for c in ifs0 do
          if ok then ok ← isTrue c env (eval c env)
        if ok then
          let x ← eval i1 env
          standAt i1.pos
          let x ← foldedSetIterable i1 env x
          let _ ← runOwn (.compStart (.SetComp elt [⟨t0, i0, ifs0, 0⟩, ⟨t1, i1, ifs1, 0⟩] scope pos) 1 (← holding [x] (pyIter x)) acc env) env
        again (.compLoop (.SetComp elt [⟨t0, i0, ifs0, 0⟩, ⟨t1, i1, ifs1, 0⟩] scope pos) 0 it acc env)) := by rfl
theorem compTurnS_in (elt t0 i0 t1 i1 : Expr) (ifs0 ifs1 : List Expr) (scope : Scope) (pos : Pos) (it acc : Value) (env : PySem.Env) :
    compTurn (.SetComp elt [⟨t0, i0, ifs0, 0⟩, ⟨t1, i1, ifs1, 0⟩] scope pos) 1 it acc env = (do
      standAt i1.pos
      match ← pyNext it with
      | none => pure (.done .next)
      | some v =>
        letOwnedTupleGo t1 it v
        assign t1 env v
        let mut ok := true
        for c in ifs1 do
          if ok then ok ← isTrue c env (eval c env)
        if ok then
          (do let v ← eval elt env; standAt elt.pos; let _ ← call (.builtin "set.add") [acc, v])
        again (.compLoop (.SetComp elt [⟨t0, i0, ifs0, 0⟩, ⟨t1, i1, ifs1, 0⟩] scope pos) 1 it acc env)) := by rfl
section
variable {prog : Program} {w : World} {A : Around} {R : Result → Shared → Prop} {s : Shared} {elt t0 i0 t1 i1 : Expr} {ifs0 ifs1 : List Expr} {scope : Scope} {pos : Pos} {it acc : Value} {env : PySem.Env}
theorem thenW {M : Model} {A : Around} {α β : Type} {m : Sem α} {f : α → Sem β} {Q : α → Shared → Prop} {Q' : β → Shared → Prop} {E : Value → Shared → Prop} {s : Shared} (h : wpAny M A m Q E s) (k : ∀ a t, Q a t → wpAny M A (f a) Q' E t) : wpAny M A (m >>= f) Q' E s :=
  wpAny_bind (wpAny_mono h k fun _ _ x => x)
theorem thenAt {M : Model} {A : Around} {β : Type} {p : Pos} {f : PUnit → Sem β} {Q' : β → Shared → Prop} {E : Value → Shared → Prop} {s : Shared} (h : wpAny M A (f ⟨⟩) Q' E s) : wpAny M A (standAt p >>= f) Q' E s := wpAny_bind (wpAny_standAt h)
theorem compLoopS_out (hs : ∀ x, foldedSetIterable i1 env x = pure x) (I : Nat → Shared → Prop)
    (turn : ∀ n s, I n s → wpAny (model prog w) A (pyNext it) (fun r s₁ => match r with
      | none => R (.ok .next) s₁
      | some v => wpAny (model prog w) A (letOwnedTupleGo t0 it v) (fun _ s₁' => wpAny (model prog w) A (assign t0 env v) (fun _ s₂ =>
          wpAny (model prog w) A (forIn ifs0 true fun c r => if r = true then do let ok ← isTrue c env (eval c env); pure (ForInStep.yield ok) else pure (ForInStep.yield r)) (fun ok s₃ =>
            if ok = true then wpAny (model prog w) A (eval i1 env) (fun x s₄ => wpAny (model prog w) A (pyIter x) (fun it1 s₅ =>
              codeAny (model prog w) A (.compStart (.SetComp elt [⟨t0, i0, ifs0, 0⟩, ⟨t1, i1, ifs1, 0⟩] scope pos) 1 it1 acc env) (fun r s' => match r with
                | .ok _ => ∃ m, m < n ∧ I m s'
                | .error _ => False) s₅) (notedBy (model prog w) A env fun e s' => R (.error e) s') s₄) (notedBy (model prog w) A env fun e s' => R (.error e) s') s₃
            else ∃ m, m < n ∧ I m s₃) (notedBy (model prog w) A env fun e s' => R (.error e) s') s₂) (notedBy (model prog w) A env fun e s' => R (.error e) s') s₁') (notedBy (model prog w) A env fun e s' => R (.error e) s') s₁) (notedBy (model prog w) A env fun e s' => R (.error e) s') s)
    (n : Nat) (h : I n s) :
    codeAny (model prog w) A (.compLoop (.SetComp elt [⟨t0, i0, ifs0, 0⟩, ⟨t1, i1, ifs1, 0⟩] scope pos) 0 it acc env) R s := by
  refine codeAny_loop rfl I (fun k t now => ?_) n h
  show wpAny _ A ((compTurn (.SetComp elt [⟨t0, i0, ifs0, 0⟩, ⟨t1, i1, ifs1, 0⟩] scope pos) 0 it acc env).onRaise (fun x => do noteFrame x env; theTreesLotGoes x)) _ _ t
  refine wpAny_noted ?_
  rw [compTurnS_out]
  refine thenAt (thenW (turn k t now) fun nx t1 go1 => ?_)
  match nx, go1 with
  | none, go1 => exact wpAny_pure go1
  | some x, go1 =>
    refine thenW go1 fun _ t2 go2 => thenW go2 fun _ t3 go3 => thenW go3 fun pass t4 go4 => ?_
    match pass, go4 with
    | false, go4 => exact wpAny_pure ⟨rfl, go4⟩
    | true, go4 =>
      refine thenW go4 fun xs t5 go5 => thenAt (wpAny_bind (wpAny_of_eq (hs xs) (wpAny_bind (wpAny_holding (wpAny_mono go5 (fun it1 t6 go6 => ?_) fun _ _ x => x)))))
      refine wpAny_bind (wpAny_runOwn (Around.mark_none .. ▸ codeAny_mono go6 fun res t7 got => ?_))
      match res, got with
      | .ok _, got =>
        first
          | exact wpAny_pure ⟨rfl, got⟩
          | exact wpAny_bind (wpAny_pure (wpAny_pure ⟨rfl, got⟩))
      | .error _, got => cases got
theorem compLoopS_in (I : Nat → Shared → Prop)
    (turn : ∀ n s, I n s → wpAny (model prog w) A (pyNext it) (fun r s₁ => match r with
      | none => R (.ok .next) s₁
      | some v => wpAny (model prog w) A (letOwnedTupleGo t1 it v) (fun _ s₁' => wpAny (model prog w) A (assign t1 env v) (fun _ s₂ =>
          wpAny (model prog w) A (forIn ifs1 true fun c r => if r = true then do let ok ← isTrue c env (eval c env); pure (ForInStep.yield ok) else pure (ForInStep.yield r)) (fun ok s₃ =>
            if ok = true then wpAny (model prog w) A (eval elt env) (fun x s₄ =>
              wpAny (model prog w) A (call (.builtin "set.add") [acc, x]) (fun _ s₅ => ∃ m, m < n ∧ I m s₅) (notedBy (model prog w) A env fun e s' => R (.error e) s') s₄) (notedBy (model prog w) A env fun e s' => R (.error e) s') s₃
            else ∃ m, m < n ∧ I m s₃) (notedBy (model prog w) A env fun e s' => R (.error e) s') s₂) (notedBy (model prog w) A env fun e s' => R (.error e) s') s₁') (notedBy (model prog w) A env fun e s' => R (.error e) s') s₁) (notedBy (model prog w) A env fun e s' => R (.error e) s') s)
    (n : Nat) (h : I n s) :
    codeAny (model prog w) A (.compLoop (.SetComp elt [⟨t0, i0, ifs0, 0⟩, ⟨t1, i1, ifs1, 0⟩] scope pos) 1 it acc env) R s := by
  refine codeAny_loop rfl I (fun k t now => ?_) n h
  show wpAny _ A ((compTurn (.SetComp elt [⟨t0, i0, ifs0, 0⟩, ⟨t1, i1, ifs1, 0⟩] scope pos) 1 it acc env).onRaise (fun x => do noteFrame x env; theTreesLotGoes x)) _ _ t
  refine wpAny_noted ?_
  rw [compTurnS_in]
  refine thenAt (thenW (turn k t now) fun nx t1 go1 => ?_)
  match nx, go1 with
  | none, go1 => exact wpAny_pure go1
  | some x, go1 =>
    refine thenW go1 fun _ t2 go2 => thenW go2 fun _ t3 go3 => thenW go3 fun pass t4 go4 => ?_
    match pass, go4 with
    | false, go4 => exact wpAny_pure ⟨rfl, go4⟩
    | true, go4 =>
      exact wpAny_bind (thenW go4 fun y t5 go5 => thenAt (thenW go5 fun _ t6 go6 => wpAny_pure (wpAny_pure ⟨rfl, go6⟩)))
theorem compStartS1_ok (h0 : codeAny (model prog w) A (.compLoop (.SetComp elt [⟨t0, i0, ifs0, 0⟩, ⟨t1, i1, ifs1, 0⟩] scope pos) 1 it acc env) R s)
    (h : wpAny (model prog w) A (pyIter it) (fun it' s' => codeAny (model prog w) A (.compLoop (.SetComp elt [⟨t0, i0, ifs0, 0⟩, ⟨t1, i1, ifs1, 0⟩] scope pos) 1 it' acc env) R s')
      (notedBy (model prog w) A env fun x s' => R (.error x) s') s) :
    codeAny (model prog w) A (.compStart (.SetComp elt [⟨t0, i0, ifs0, 0⟩, ⟨t1, i1, ifs1, 0⟩] scope pos) 1 it acc env) R s := by
  have other : wpAny (model prog w) A (pyIter it >>= fun it' => pure (Fin.again (.compLoop (.SetComp elt [⟨t0, i0, ifs0, 0⟩, ⟨t1, i1, ifs1, 0⟩] scope pos) 1 it' acc env))) (fun f u => match f with | .done r => R (.ok r) u | .again c => c.quiet = true ∧ codeAny (model prog w) A c R u) (notedBy (model prog w) A env fun x u => R (.error x) u) s :=
    thenW h fun it' u q => wpAny_pure ⟨rfl, q⟩
  refine codeAny_of_tree (wpAny_notedAt (m := compStart (.SetComp elt [⟨t0, i0, ifs0, 0⟩, ⟨t1, i1, ifs1, 0⟩] scope pos) 1 it acc env) ?_)
  unfold compStart
  refine wpAny_bind (m := ask) (wpAny_askSetting (wpAny_ite ?_))
  split
  · first
      | exact wpAny_bind (wpAny_pure (wpAny_pure (And.intro rfl h0)))
      | exact wpAny_pure (And.intro rfl h0)
  · first
      | exact wpAny_bind (wpAny_rule (thenAt other))
      | exact wpAny_bind (wpAny_rule (wpAny_bind (wpAny_standAt other)))
end
theorem pinsAt_cons {D : Addr} {fp : List Addr} {h : Heap} {p : Addr × Obj} (hp : p ∈ pinsAt fp h) : p ∈ pinsAt (D :: fp) h := by
  obtain ⟨hb, e⟩ := of_pinsAt hp
  exact mem_pinsAt (List.mem_cons_of_mem _ hb) e
theorem turnD {P : Program} {w : World} {K : PySem.W.Frag} {tg : Expr} {J : It} {fp : List Addr} {it : Addr} {tn : Nat → Heap → Prop} {D : Addr} {Sx : Heap → Prop} (T : Turn P w K tg J fp it tn) (hD : D ∉ fp) (hk : ∀ h h', Sx h → (∀ o, h.get? D = some o → h'.get? D = some o) → Sx h')
    (hx : ∀ h, Sx h → ∃ o, h.get? D = some o ∧ ∀ v, o.data ≠ .cell v) : Turn P w K tg J (D :: fp) it (fun i h => tn i h ∧ Sx h) where
  mem := List.mem_cons_of_mem _ T.mem
  obj := fun i h st b hb => by
    rcases List.mem_cons.mp hb with rfl | hb
    · exact hx h st.2
    · exact T.obj i h st.1 b hb
  keep := fun i h h' st k => ⟨T.keep i h h' st.1 fun b hb o e => k b (List.mem_cons_of_mem _ hb) o e, hk h h' st.2 fun o e => k D List.mem_cons_self o e⟩
  item := fun X e1 e2 e3 hc i pins s σ H E I f st go => by
    have I' := I.pinned (fp := [D]) (fun b hb => f b (by rcases List.mem_singleton.mp hb with rfl; exact List.mem_cons_self)) (fun b hb => by rcases List.mem_singleton.mp hb with rfl; exact hx _ st.2)
    refine thn (T.item X e1 e2 e3 hc i _ s σ H E I' (fun b hb => ?_) st.1 go) fun r s1 ⟨u, hr, h1⟩ => ⟨u, hr, thn h1 fun _ s2 ⟨x, H', J', rx, y, st', n'⟩ => ?_⟩
    · obtain ⟨f0, f1, f2, f3, f4, f5⟩ := f b (List.mem_cons_of_mem _ hb)
      refine ⟨f0, f1, f2, f3, f4, fun p hp => ?_⟩
      rcases List.mem_append.mp hp with z | z
      · exact f5 p (List.mem_append_left _ z)
      · rcases List.mem_append.mp z with z | z
        · exact f5 p (List.mem_append_right _ z)
        · obtain ⟨q, _⟩ := of_pinsAt z
          rw [List.mem_singleton.mp q]
          exact fun e => hD (e ▸ hb)
    · obtain ⟨o, eo, _⟩ := hx _ st.2
      have z := J'.pin (D, o) (List.mem_append_right _ (List.mem_append_right _ (mem_pinsAt List.mem_cons_self eo)))
      refine ⟨x, H', J'.unpinned, rx, y, ⟨st', hk _ _ st.2 fun o' e' => ?_⟩, fun b hb => ?_⟩
      · rw [eo] at e'
        cases e'
        exact z.1
      · rcases List.mem_cons.mp hb with rfl | hb
        · exact z.2.1
        · exact n' b hb
  done := fun X e1 e2 e3 hc i pins s σ H E I f st stop => by
    have I' := I.pinned (fp := [D]) (fun b hb => f b (by rcases List.mem_singleton.mp hb with rfl; exact List.mem_cons_self)) (fun b hb => by rcases List.mem_singleton.mp hb with rfl; exact hx _ st.2)
    refine thn (T.done X e1 e2 e3 hc i _ s σ H E I' (fun b hb => ?_) st.1 stop) fun r s1 ⟨hr, J'⟩ => ⟨hr, J'.unpinned⟩
    obtain ⟨f0, f1, f2, f3, f4, f5⟩ := f b (List.mem_cons_of_mem _ hb)
    refine ⟨f0, f1, f2, f3, f4, fun p hp => ?_⟩
    rcases List.mem_append.mp hp with z | z
    · exact f5 p (List.mem_append_left _ z)
    · rcases List.mem_append.mp z with z | z
      · exact f5 p (List.mem_append_right _ z)
      · obtain ⟨q, _⟩ := of_pinsAt z
        rw [List.mem_singleton.mp q]
        exact fun e => hD (e ▸ hb)
  self := fun A i s Q E st q => T.self A i s Q E st.1 q
theorem doneD {P : Program} {w : World} {K : PySem.W.Frag} {tg : Expr} {J : It} {fp : List Addr} {it : Addr} {tn : Nat → Heap → Prop} {D : Addr} {Sx : Heap → Prop} (T : Turn P w K tg J fp it tn) (hD : D ∉ fp) (hk : ∀ h h', Sx h → (∀ o, h.get? D = some o → h'.get? D = some o) → Sx h')
    (hx : ∀ h, Sx h → ∃ o, h.get? D = some o ∧ ∀ v, o.data ≠ .cell v) (X : Cx) (e1 : X.prog = P) (e2 : X.w = w) (e3 : X.K = K) (hc : X.calm = true) (i : Nat) (pins : List (Addr × Obj)) (s : Shared) (σ : L2.St) (H : Hp) (E : Value → Shared → Prop) (I : Inv X pins σ H s) (f : ∀ b ∈ D :: fp, FpOk X pins H b) (st : tn i s.heap) (sx : Sx s.heap) (stop : J.stop i H) :
    wpAny (model P w) X.A (pyNext (.ref it)) (fun r s1 => r = none ∧ Inv X pins σ H s1 ∧ Sx s1.heap) E s := by
  have I' := I.pinned (fp := [D]) (fun b hb => f b (by rcases List.mem_singleton.mp hb with rfl; exact List.mem_cons_self)) (fun b hb => by rcases List.mem_singleton.mp hb with rfl; exact hx _ sx)
  refine thn (T.done X e1 e2 e3 hc i _ s σ H E I' (fun b hb => ?_) st stop) fun r s1 ⟨hr, J'⟩ => ⟨hr, J'.unpinned, ?_⟩
  · obtain ⟨f0, f1, f2, f3, f4, f5⟩ := f b (List.mem_cons_of_mem _ hb)
    refine ⟨f0, f1, f2, f3, f4, fun p hp => ?_⟩
    rcases List.mem_append.mp hp with z | z
    · exact f5 p (List.mem_append_left _ z)
    · rcases List.mem_append.mp z with z | z
      · exact f5 p (List.mem_append_right _ z)
      · obtain ⟨q, _⟩ := of_pinsAt z
        rw [List.mem_singleton.mp q]
        exact fun e => hD (e ▸ hb)
  · obtain ⟨o, eo, _⟩ := hx _ sx
    have z := J'.pin (D, o) (List.mem_append_right _ (List.mem_append_right _ (mem_pinsAt List.mem_cons_self eo)))
    exact hk _ _ sx fun o' e' => by
      rw [eo] at e'
      cases e'
      exact z.1
/-- the set at D holds acc -/
def SA (w : World) (D : Addr) (acc : List Int) (h : Heap) : Prop := ∃ c, c ≤ acc.length ∧ SetR w h D (fun j => decide (j ∈ acc)) c
theorem SA.at {w : World} {D : Addr} {acc : List Int} {h h' : Heap} (x : SA w D acc h) (k : ∀ o, h.get? D = some o → h'.get? D = some o) : SA w D acc h' := let ⟨c, l, r⟩ := x; ⟨c, l, r.at k⟩
theorem SA.obj {w : World} {D : Addr} {acc : List Int} {h : Heap} (x : SA w D acc h) : ∃ o, h.get? D = some o ∧ ∀ v, o.data ≠ .cell v := by
  obtain ⟨c, l, o, es, ep, t, e, _, d, _⟩ := x
  exact ⟨o, e, fun v z => by rw [d] at z; cases z⟩
theorem addS_ok {X : Cx} {pins : List (Addr × Obj)} {σ : L2.St} {H : Hp} {s : Shared} {E : Value → Shared → Prop} {D : Addr} {acc : List Int} {k : Int} {tk : Tok} {Q : Value → Shared → Prop} (I : Inv X pins σ H s) (hn : H D = none) (hL : D ≠ X.env.locals)
    (h1 : D ∈ X.ex ∨ X.s_0.heap.objs.size ≤ D) (h2 : ∀ x c, X.env.cells.lookup x = some c → c ≠ D) (h3 : ∀ p ∈ X.pn ++ pins, p.1 ≠ D) (x : SA X.w D acc s.heap) (room : acc.length + 1 < scanBound)
    (h : ∀ s', Inv X pins σ H s' → SA X.w D (acc ++ [k]) s'.heap → Q .none s') : wpAny (model X.prog X.w) X.A (call (.builtin "set.add") [.ref D, .int k tk]) Q E s := by
  obtain ⟨c, l, R⟩ := x
  refine setR_add R (by omega) fun h' sb new => ?_
  refine h { s with heap := h', toks := s.toks + 1 } (I.turned (fun b o hb e => (sb.2 b hb).trans e) hn hL h1 h2 h3) ⟨_, ?_, new.congr fun j => ?_⟩
  · rw [List.length_append]
    split <;> simp <;> omega
  · by_cases e : j ∈ acc
    · simp [e]
    · by_cases e2 : j = k
      · simp [e2]
      · simp [e, e2]
theorem Un.adopt {fs ex : List Addr} {H H' : Hp} {h h' : Heap} {D : Addr} {o : HO} (u : Un fs ex H H' h h') (hD : D ∈ ex) (hn : H' D = none) : Un fs ex H (upd H' D o) h h' :=
  ⟨u.keep, u.slot, fun b ob e n hb => by
    rw [upd_ne fun z => hb (by rw [z]; exact hD)]
    exact u.free b ob e n hb, u.there, fun b xs e => by
    have q := u.tups b xs e
    rw [upd_ne fun z => by rw [z, hn] at q; cases q]
    exact q, fun b ob v e => by
    have q := u.frzs b ob v e
    rw [upd_ne fun z => by rw [z, hn] at q; cases q]
    exact q, fun b ps e => by
    obtain ⟨more, q⟩ := u.tbls b ps e
    refine ⟨more, ?_⟩
    rw [upd_ne fun z => by rw [z, hn] at q; cases q]
    exact q⟩
theorem HOk.adopt {P : Program} {w : World} {H : Hp} {h : Heap} {a : Addr} {o : HO} (x : HOk P w H h) (hn : H a = none) (new : ObjOk P w (upd H a o) h a o) : HOk P w (upd H a o) h := fun b u e => by
  by_cases hb : b = a
  · subst hb; rw [upd_same] at e; cases e; exact new
  · rw [upd_ne hb] at e
    exact (x b u e).stay (fun c v _ q => q) (fun c q => by rw [upd_ne fun z => by rw [z, hn] at q; cases q]; exact q) fun c xs q => by rw [upd_ne fun z => by rw [z, hn] at q; cases q]; exact q
section
variable {X : Cx}
/-- {elt for tg in iter if .. for tg1 in iter1 if ..}, elt an int: acc is what was added -/
def tSc2 (w : World) (wi : TI) (g : TG) (tt : TT) (wi1 : TI) (g1 : TG) (tt1 : TT) (te : TE) (vs vs1 : List Nat) : TE := fun σ H Q => wi σ H fun J H1 => ∃ W : Nat → Nat → List Int → Hp → Prop, (∃ m, W 0 m [] H1) ∧ ∀ i m acc H, W i m acc H →
  (J.stop i H ∧ ∀ D c, c ≤ acc.length → H D = none → Q (.ref D) (upd H D (SetO w D (fun j => decide (j ∈ acc)) c))) ∨ (J.go i H ∧ ∃ Nx : List Int → Hp → Prop, (∀ acc' H', Nx acc' H' → ∃ m', m' < m ∧ W (i + 1) m' acc' H') ∧ ∀ x H', J.yld i H x H' → g x (wipe σ vs) H' fun σ2 H2 => wipe σ2 vs = wipe σ vs ∧ tt σ2 H2 fun b H3 =>
    if b = true then wi1 σ2 H3 fun J1 H4 => ∃ W1 : Nat → Nat → List Int → Hp → Prop, (∃ m, W1 0 m acc H4) ∧ ∀ j k acc H, W1 j k acc H →
      (J1.stop j H ∧ Nx acc H) ∨ (J1.go j H ∧ ∃ Nx1 : List Int → Hp → Prop, (∀ acc' H', Nx1 acc' H' → ∃ k', k' < k ∧ W1 (j + 1) k' acc' H') ∧ ∀ x H', J1.yld j H x H' → g1 x (wipe σ2 vs1) H' fun σ3 H5 => wipe σ3 vs1 = wipe σ2 vs1 ∧ tt1 σ3 H5 fun b H6 =>
        if b = true then te σ3 H6 fun y H7 => ∃ z : Int, y = .int z ∧ acc.length + 1 < scanBound ∧ Nx1 (acc ++ [z]) H7 else Nx1 acc H6)
    else Nx acc H3)
theorem sc2_core {pins : List (Addr × Obj)} {s : Shared} {σ : L2.St} {H : Hp} {Q : VK} {elt tg iter tg1 iter1 : Expr} {ifs ifs1 : List Expr} {scope : Scope} {own : List (PySem.Str × Nat)} {vs1 : List Nat} {pos pos' : Pos} {wi wi1 : TI} {g g1 : TG} {tt tt1 : TT} {te : TE} {use : Option (Value → Sem Unit)} {Qf : Value → Shared → Prop}
    (hc : X.calm = true) (hN : X.N.Nodup) (I : Inv X pins σ H s) (hi : PI X tg iter wi) (ok : BlkOk X.N X.env.scope scope own) (hv : ∀ i ∈ vs1, i ∈ own.map (·.2))
    (hg : ∀ (s : Shared) (H : Hp) (C : Addr) (cl : List (PySem.Str × Addr)) (fp : List Addr), PG (X.blk s H scope (compEnvC scope cl C X.env) fp) tg g) (ht : ∀ (s : Shared) (H : Hp) (C : Addr) (cl : List (PySem.Str × Addr)) (fp : List Addr), PTs (X.blk s H scope (compEnvC scope cl C X.env) fp) ifs tt)
    (he : ∀ (s : Shared) (H : Hp) (C : Addr) (cl : List (PySem.Str × Addr)) (fp : List Addr), PE (X.blk s H scope (compEnvC scope cl C X.env) fp) elt te) (hs : ∀ x, foldedSetIterable iter X.env x = pure x)
    (hi1 : ∀ (s : Shared) (H : Hp) (C : Addr) (cl : List (PySem.Str × Addr)) (fp : List Addr), PI (X.blk s H scope (compEnvC scope cl C X.env) fp) tg1 iter1 wi1)
    (hg1 : ∀ (s : Shared) (H : Hp) (C : Addr) (cl : List (PySem.Str × Addr)) (fp : List Addr), PG (X.blk s H scope (compEnvC scope cl C X.env) fp) tg1 g1)
    (ht1 : ∀ (s : Shared) (H : Hp) (C : Addr) (cl : List (PySem.Str × Addr)) (fp : List Addr), PTs (X.blk s H scope (compEnvC scope cl C X.env) fp) ifs1 tt1)
    (hs1 : ∀ env x, foldedSetIterable iter1 env x = pure x)
    (h : tSc2 X.w wi g tt wi1 g1 tt1 te (own.map (·.2)) vs1 σ H Q)
    (hRR : ∀ D C s' m H', Inv X pins σ H' s' → Q (.ref D) H' → s'.heap.Ns C m → FpOk X pins H' C → compPost (model X.prog X.w) X.A X.xe use Qf (.ref D) C (.ok .next) s') :
    wpAny (model X.prog X.w) X.A (comprehension (.SetComp elt [⟨tg, iter, ifs, 0⟩, ⟨tg1, iter1, ifs1, 0⟩] scope pos) scope X.env pos' (newSet (.type "set")) false (eval iter X.env) use) Qf X.xe s := by
  have hfree : ∀ y ∈ scope.names, y.2 = .free → ∃ c, X.env.cells.lookup y.1 = some c := fun y hy e => by
    rcases ok.free y hy e with k | k
    · exact I.ok.has _ (.inl k)
    · exact I.ok.has _ (.inr k)
  refine wpAny_comprehension_free (use := use) rfl hs (closure_ok hfree) ok.kind (fun y hy e => by rw [ok.uniq y hy, e])
    (thn (hi.run pins s σ H _ I h) fun xv s1 hx => thn hx fun itv s2 h2 => ?_)
  obtain ⟨it, fp, tn, J, H2, e, I2, T, st2, f2, q⟩ := h2
  subst e
  refine PpSet.newSet_ok (newEnv_comp ?_)
  generalize hD : s2.heap.objs.size = D
  have hDn : H2 D = none := I2.hok.fresh (Nat.le_of_eq hD)
  obtain ⟨W, ⟨m0, w0⟩, turn⟩ := q
  generalize hs3 : ({ s2 with heap := s2.heap.push { cls := .type "set", dict := none, data := .set #[] 0 (.fresh 0 0 (!X.w.params.followText "set-order")) } } : Shared) = s3
  have I3 : Inv X pins σ H2 s3 := by
    rw [← hs3]
    exact I2.kept (t' := s2.toks) fun b o e => Heap.get?_push_of_some _ e
  have h3 : s3.heap = s2.heap.push { cls := .type "set", dict := none, data := .set #[] 0 (.fresh 0 0 (!X.w.params.followText "set-order")) } := by rw [← hs3]
  have a3 : SA X.w D [] s3.heap := ⟨0, Nat.le_refl _, by
    rw [h3, ← hD]
    exact (setR_fresh X.w).congr fun k => by simp⟩
  have sz : ∀ b ∈ fp, b < s2.heap.objs.size := fun b hb => by
    obtain ⟨o, e, _⟩ := T.obj _ _ st2 b hb
    exact Heap.lt_size e
  have hDf : D ∉ fp := fun hb => by
    have := sz D hb
    rw [hD] at this
    exact Nat.lt_irrefl _ this
  have f3 : ∀ b ∈ D :: fp, FpOk X pins H2 b ∧ b < s3.heap.objs.size := fun b hb => by
    rw [h3, Heap.size_push]
    rcases List.mem_cons.mp hb with rfl | hb
    · exact ⟨I2.fpOk (Nat.le_of_eq hD) hDn, by rw [hD]; exact Nat.lt_succ_self _⟩
    · exact ⟨f2 b hb, Nat.lt_succ_of_lt (sz b hb)⟩
  have st3 : tn 0 s3.heap := T.keep _ _ _ st2 fun b _ o e => by rw [h3]; exact Heap.get?_push_of_some _ e
  have I4 := block_start I3 ok hN f3
  have pg := hg s3 H2 s3.heap.objs.size (cellsFrom (s3.heap.objs.size + 1) scope.names (cloFrom X.env.cells scope.names [])) (D :: fp)
  have pt := ht s3 H2 s3.heap.objs.size (cellsFrom (s3.heap.objs.size + 1) scope.names (cloFrom X.env.cells scope.names [])) (D :: fp)
  have pe := he s3 H2 s3.heap.objs.size (cellsFrom (s3.heap.objs.size + 1) scope.names (cloFrom X.env.cells scope.names [])) (D :: fp)
  have pi1 := hi1 s3 H2 s3.heap.objs.size (cellsFrom (s3.heap.objs.size + 1) scope.names (cloFrom X.env.cells scope.names [])) (D :: fp)
  have pg1 := hg1 s3 H2 s3.heap.objs.size (cellsFrom (s3.heap.objs.size + 1) scope.names (cloFrom X.env.cells scope.names [])) (D :: fp)
  have pt1 := ht1 s3 H2 s3.heap.objs.size (cellsFrom (s3.heap.objs.size + 1) scope.names (cloFrom X.env.cells scope.names [])) (D :: fp)
  show codeAny _ _ (.compStart (.SetComp elt [⟨tg, iter, ifs, 0⟩, ⟨tg1, iter1, ifs1, 0⟩] scope pos) 0 (.ref it) (.ref D) (compEnvC scope (cellsFrom (s3.heap.objs.size + 1) scope.names (cloFrom X.env.cells scope.names [])) s3.heap.objs.size X.env)) (compPost (model X.prog X.w) X.A X.xe use Qf (.ref D) s3.heap.objs.size) { s3 with heap := pushCells (s3.heap.push { cls := .type "dict", data := .dict #[] }) scope.names }
  have nfp : ∀ b ∈ D :: fp, H2 b = none := fun b hb => (f3 b hb).1.1
  generalize hce : compEnvC scope (cellsFrom (s3.heap.objs.size + 1) scope.names (cloFrom X.env.cells scope.names [])) s3.heap.objs.size X.env = ce at I4 pg pt pe pi1 pg1 pt1 ⊢
  have cL : ce.locals = s3.heap.objs.size := by subst hce; rfl
  generalize hs4 : ({ s3 with heap := pushCells (s3.heap.push { cls := .type "dict", data := .dict #[] }) scope.names } : Shared) = s4 at I4 ⊢
  have k4 : ∀ b o, s3.heap.get? b = some o → s4.heap.get? b = some o := fun b o e => by rw [← hs4]; exact pushCells_keeps _ _ _ _ (Heap.get?_push_of_some _ e)
  have st4 : tn 0 s4.heap := T.keep _ _ _ st3 fun b _ o e => k4 b o e
  have stat : ∀ {pl : List (Addr × Obj)} {σ' : L2.St} {H' : Hp} {s' : Shared}, Inv (X.blk s3 H2 scope ce (D :: fp)) pl σ' H' s' → (∀ p ∈ pl, p.1 ∉ D :: fp) → (∀ b ∈ D :: fp, H' b = none) → ∀ b ∈ D :: fp, FpOk (X.blk s3 H2 scope ce (D :: fp)) pl H' b := fun {pl σ' H' s'} I' hp hn b hb =>
    ⟨hn b hb, (I'.ok.exf b hb).1, I'.ok.exfs b hb, .inl hb, fun x c e => (I'.ok.exf b hb).2 x c e, fun p hpp z => hp p hpp (z ▸ hb)⟩
  have sk : ∀ {acc : List Int} (h h' : Heap), SA X.w D acc h → (∀ o, h.get? D = some o → h'.get? D = some o) → SA X.w D acc h' := fun h h' x k => x.at k
  have sx : ∀ {acc : List Int} (h : Heap), SA X.w D acc h → ∃ o, h.get? D = some o ∧ ∀ v, o.data ≠ .cell v := fun h x => x.obj
  have loop : codeAny (model X.prog X.w) X.A (.compLoop (.SetComp elt [⟨tg, iter, ifs, 0⟩, ⟨tg1, iter1, ifs1, 0⟩] scope pos) 0 (.ref it) (.ref D) ce) (compPost (model X.prog X.w) X.A X.xe use Qf (.ref D) s3.heap.objs.size) s4 := by
    refine compLoopS_out (hs1 ce) (fun n s' => ∃ i H' acc, Inv (X.blk s3 H2 scope ce (D :: fp)) [] (wipe σ (own.map (·.2))) H' s' ∧ tn i s'.heap ∧ SA X.w D acc s'.heap ∧ (∀ b ∈ D :: fp, H' b = none) ∧ W i n acc H') ?_ m0 ⟨0, H2, [], I4, st4, a3.at fun o e => k4 D o e, nfp, w0⟩
    rintro n s5 ⟨i, H5, acc, I5, st5, a5, n5, w5⟩
    rcases turn i n acc H5 w5 with ⟨stop, qq⟩ | ⟨go, Nx, hNx, step⟩
    · have td := doneD T hDf sk sx (X.blk s3 H2 scope ce (D :: fp)) rfl rfl rfl hc i [] s5 _ H5 (fun _ _ => False) I5 (stat I5 (fun p hp => nomatch hp) n5) st5 a5 stop
      refine thnF td fun r s6 ⟨hr, I6, a6⟩ => ?_
      subst hr
      obtain ⟨c, hcl, R6⟩ := a6
      have hD5 : H5 D = none := n5 D List.mem_cons_self
      have I7 : Inv X pins σ (upd H5 D (SetO X.w D (fun j => decide (j ∈ acc)) c)) s6 := I3.call' (ch := D :: fp) I6.os (Un.adopt I6.base List.mem_cons_self hD5) (HOk.adopt I6.hok hD5 (setO_new R6)) I6.bare fun b hb => ⟨(f3 b hb).1.2.2.2.1, (f3 b hb).1.2.1, (f3 b hb).1.2.2.2.2.1, (f3 b hb).1.2.2.2.2.2⟩
      have nC : (upd H5 D (SetO X.w D (fun j => decide (j ∈ acc)) c)) s3.heap.objs.size = none := by
        have z : H5 ce.locals = none := I6.free
        rw [cL] at z
        rw [upd_ne (Nat.ne_of_gt (f3 D List.mem_cons_self).2)]
        exact z
      obtain ⟨m, hn, _⟩ := I6.loc
      have hn : s6.heap.Ns ce.locals m := hn
      rw [cL] at hn
      exact hRR D s3.heap.objs.size s6 m _ I7 (qq D c hcl hD5) hn (I3.fpOk (Nat.le_refl _) nC)
    · have T' := turnD (Sx := SA X.w D acc) T hDf sk sx
      have ti := T'.item (X.blk s3 H2 scope ce (D :: fp)) rfl rfl rfl hc i [] s5 _ H5 (fun _ _ => False) I5 (stat I5 (fun p hp => nomatch hp) n5) ⟨st5, a5⟩ go
      refine thnF ti fun r s6 ⟨u, hr, h6⟩ => ?_
      subst hr
      refine thnF h6 fun _ s7 ⟨x, H7, I7, r7, y7, st7, n7⟩ => ?_
      have I7' := I7.pinned (stat I7 (fun p hp => nomatch hp) n7) (T'.obj _ _ st7)
      refine thnF (pg.run _ s7 _ H7 x u _ I7' r7 (step x H7 y7)) fun _ s8 ⟨σ8, H8, I8, hw8, q8⟩ => ?_
      refine thnF (pt.run _ s8 σ8 H8 _ I8 q8) fun b s9 ⟨H9, I9, q9⟩ => ?_
      obtain ⟨oD, eD, _⟩ := sx _ st7.2
      have pD : ∀ {σ' : L2.St} {H' : Hp} {s' : Shared} {pl : List (Addr × Obj)}, Inv (X.blk s3 H2 scope ce (D :: fp)) (([] ++ pinsAt (D :: fp) s7.heap) ++ pl) σ' H' s' → H' D = none ∧ SA X.w D acc s'.heap := fun {σ' H' s' pl} I' => by
        have z := I'.pin (D, oD) (List.mem_append_right _ (List.mem_append_left _ (List.mem_append_right _ (mem_pinsAt List.mem_cons_self eD))))
        exact ⟨z.2.1, st7.2.at fun o e => by rw [eD] at e; cases e; exact z.1⟩
      have fin : ∀ {σ9 : L2.St} {s' : Shared} {H' : Hp} {acc' : List Int}, Inv (X.blk s3 H2 scope ce (D :: fp)) ([] ++ pinsAt fp s7.heap) σ9 H' s' → H' D = none → SA X.w D acc' s'.heap → (wipe σ (own.map (·.2))).length = σ9.length → (∀ (j : Nat) v, (wipe σ (own.map (·.2)))[j]? = some (some v) → σ9[j]? = some (some v)) → Nx acc' H' →
          ∃ m, m < n ∧ ∃ i H' acc', Inv (X.blk s3 H2 scope ce (D :: fp)) [] (wipe σ (own.map (·.2))) H' s' ∧ tn i s'.heap ∧ SA X.w D acc' s'.heap ∧ (∀ b ∈ D :: fp, H' b = none) ∧ W i m acc' H' := fun {σ9 s' H' acc'} I' hd ha hl hk nx => by
        obtain ⟨m', hm, w'⟩ := hNx acc' H' nx
        have pin' : ∀ b ∈ fp, ∀ o, s7.heap.get? b = some o → s'.heap.get? b = some o ∧ H' b = none := fun b hb o e =>
          let z := I'.pin (b, o) (List.mem_append_right _ (List.mem_append_right _ (mem_pinsAt hb e)))
          ⟨z.1, z.2.1⟩
        refine ⟨m', hm, i + 1, H', acc', (I'.unpinned (pins := [])).weak hl hk, T.keep _ _ _ st7.1 fun b hb o e => (pin' b hb o e).1, ha, fun b hb => ?_, w'⟩
        rcases List.mem_cons.mp hb with rfl | hb
        · exact hd
        · obtain ⟨o, e, _⟩ := T.obj _ _ st7.1 b hb
          exact (pin' b hb o e).2
      have less : ∀ {σ' : L2.St} {H' : Hp} {s' : Shared}, Inv (X.blk s3 H2 scope ce (D :: fp)) ([] ++ pinsAt (D :: fp) s7.heap) σ' H' s' → Inv (X.blk s3 H2 scope ce (D :: fp)) ([] ++ pinsAt fp s7.heap) σ' H' s' := fun {σ' H' s'} I' => I'.pins_of fun p hp => I'.pin p (List.mem_append_right _ (List.mem_append_right _ (pinsAt_cons ((List.mem_append.mp hp).elim (fun z => nomatch z) id))))
      have hl8 : (wipe σ (own.map (·.2))).length = σ8.length := by rw [← hw8, wipe_length]
      have hk8 : ∀ (j : Nat) v, (wipe σ (own.map (·.2)))[j]? = some (some v) → σ8[j]? = some (some v) := fun j v e => by
        rw [← hw8] at e
        exact (wipe_some e).1
      have hk9 : ∀ (j : Nat) v, (wipe σ (own.map (·.2)))[j]? = some (some v) → (wipe σ8 vs1)[j]? = some (some v) := fun j v e => by
        rw [← hw8] at e
        obtain ⟨e1, e2⟩ := wipe_some e
        rw [wipe_out fun z => e2 (hv j z)]
        exact e1
      have nP0 : ∀ p ∈ ([] ++ pinsAt fp s7.heap : List (Addr × Obj)), p.1 ∈ fp := fun p hp => (List.mem_append.mp hp).elim (fun z => nomatch z) fun z => (of_pinsAt z).1
      cases b with
      | false =>
        simp only [Bool.false_eq_true, if_false] at q9 ⊢
        obtain ⟨d9, a9⟩ := pD (pl := []) (by rw [List.append_nil]; exact I9)
        exact fin (less I9) d9 a9 hl8 hk8 q9
      | true =>
        simp only [if_true] at q9 ⊢
        refine thnF (pi1.run _ s9 σ8 H9 _ I9 q9) fun xv s10 hx => thnF hx fun itv s11 h11 => ?_
        obtain ⟨it1, fp1, tn1, J1, H11, e1, I11, T1, st11, f11, W1, ⟨m1, w1⟩, turn1⟩ := h11
        subst e1
        have hD1 : D ∉ fp1 := fun hb => (f11 D hb).2.2.2.2.2 (D, oD) (List.mem_append_right _ (List.mem_append_right _ (mem_pinsAt List.mem_cons_self eD))) rfl
        obtain ⟨d11, a11⟩ := pD (pl := []) (by rw [List.append_nil]; exact I11)
        -- the inner loop
        have stat1 : ∀ {σ' : L2.St} {H' : Hp} {s' : Shared}, Inv (X.blk s3 H2 scope ce (D :: fp)) ([] ++ pinsAt fp s7.heap) σ' H' s' → (∀ b ∈ D :: fp1, H' b = none) → ∀ b ∈ D :: fp1, FpOk (X.blk s3 H2 scope ce (D :: fp)) ([] ++ pinsAt fp s7.heap) H' b := fun {σ' H' s'} I' hn b hb => by
          rcases List.mem_cons.mp hb with rfl | hb'
          · exact ⟨hn b hb, (I'.ok.exf b List.mem_cons_self).1, I'.ok.exfs b List.mem_cons_self, .inl List.mem_cons_self, fun x c e => (I'.ok.exf b List.mem_cons_self).2 x c e, fun p hpp z => hDf (z ▸ nP0 p hpp)⟩
          · obtain ⟨g0, g1', g2', g3, g4, g5⟩ := f11 b hb'
            exact ⟨hn b hb, g1', g2', g3, g4, fun p hpp => g5 p (List.mem_append_right _ (List.mem_append_right _ (pinsAt_cons ((List.mem_append.mp hpp).elim (fun z => nomatch z) fun z => (List.mem_append.mp z).elim (fun z => nomatch z) id))))⟩
        have loop1 : codeAny (model X.prog X.w) X.A (.compLoop (.SetComp elt [⟨tg, iter, ifs, 0⟩, ⟨tg1, iter1, ifs1, 0⟩] scope pos) 1 (.ref it1) (.ref D) ce)
            (fun r s' => match r with
              | .ok _ => ∃ m, m < n ∧ ∃ i H' acc', Inv (X.blk s3 H2 scope ce (D :: fp)) [] (wipe σ (own.map (·.2))) H' s' ∧ tn i s'.heap ∧ SA X.w D acc' s'.heap ∧ (∀ b ∈ D :: fp, H' b = none) ∧ W i m acc' H'
              | .error _ => False) s11 := by
          refine compLoopS_in (fun k s' => ∃ j H' acc', Inv (X.blk s3 H2 scope ce (D :: fp)) ([] ++ pinsAt fp s7.heap) (wipe σ8 vs1) H' s' ∧ tn1 j s'.heap ∧ SA X.w D acc' s'.heap ∧ (∀ b ∈ D :: fp1, H' b = none) ∧ W1 j k acc' H') ?_ m1
            ⟨0, H11, acc, (less I11).weak (wipe_length _ _) (fun j v e => (wipe_some e).1), st11, a11, fun b hb => by
              rcases List.mem_cons.mp hb with rfl | hb
              · exact d11
              · exact (f11 b hb).1, w1⟩
          rintro k s12 ⟨j, H12, acc1, I12, st12, a12, n12, w12⟩
          rcases turn1 j k acc1 H12 w12 with ⟨stop1, nx1⟩ | ⟨go1, Nx1, hNx1, step1⟩
          · refine thnF (doneD T1 hD1 sk sx (X.blk s3 H2 scope ce (D :: fp)) rfl rfl rfl hc j _ s12 (wipe σ8 vs1) H12 (fun _ _ => False) I12 (stat1 I12 n12) st12 a12 stop1) fun r s13 ⟨hr, I13, a13⟩ => ?_
            subst hr
            exact fin I13 (n12 D List.mem_cons_self) a13 (hl8.trans (wipe_length σ8 vs1).symm) hk9 nx1
          · have T1' := turnD (Sx := SA X.w D acc1) T1 hD1 sk sx
            refine thnF (T1'.item (X.blk s3 H2 scope ce (D :: fp)) rfl rfl rfl hc j _ s12 (wipe σ8 vs1) H12 (fun _ _ => False) I12 (stat1 I12 n12) ⟨st12, a12⟩ go1) fun r s13 ⟨u1, hr, h13⟩ => ?_
            subst hr
            refine thnF h13 fun _ s14 ⟨x1, H14, I14, r14, y14, st14, n14⟩ => ?_
            have I14' := I14.pinned (stat1 I14 n14) (T1'.obj _ _ st14)
            refine thnF (pg1.run _ s14 (wipe σ8 vs1) H14 x1 u1 _ I14' r14 (step1 x1 H14 y14)) fun _ s15 ⟨σ15, H15, I15, hw15, q15⟩ => ?_
            refine thnF (pt1.run _ s15 σ15 H15 _ I15 q15) fun b1 s16 ⟨H16, I16, q16⟩ => ?_
            obtain ⟨o1, eo1, _⟩ := sx _ st14.2
            have pD1 : ∀ {σ' : L2.St} {H' : Hp} {s' : Shared}, Inv (X.blk s3 H2 scope ce (D :: fp)) (([] ++ pinsAt fp s7.heap) ++ pinsAt (D :: fp1) s14.heap) σ' H' s' → H' D = none ∧ SA X.w D acc1 s'.heap := fun {σ' H' s'} I' => by
              have z := I'.pin (D, o1) (List.mem_append_right _ (List.mem_append_right _ (mem_pinsAt List.mem_cons_self eo1)))
              exact ⟨z.2.1, st14.2.at fun o e => by rw [eo1] at e; cases e; exact z.1⟩
            have less1 : ∀ {σ' : L2.St} {H' : Hp} {s' : Shared}, Inv (X.blk s3 H2 scope ce (D :: fp)) (([] ++ pinsAt fp s7.heap) ++ pinsAt (D :: fp1) s14.heap) σ' H' s' → Inv (X.blk s3 H2 scope ce (D :: fp)) (([] ++ pinsAt fp s7.heap) ++ pinsAt fp1 s14.heap) σ' H' s' := fun {σ' H' s'} I' => I'.pins_of fun p hp => I'.pin p (List.mem_append_right _ ((List.mem_append.mp hp).elim (fun z => List.mem_append_left _ z) fun z => List.mem_append_right _ (pinsAt_cons z)))
            have fin1 : ∀ {s' : Shared} {H' : Hp} {acc' : List Int}, Inv (X.blk s3 H2 scope ce (D :: fp)) (([] ++ pinsAt fp s7.heap) ++ pinsAt fp1 s14.heap) σ15 H' s' → H' D = none → SA X.w D acc' s'.heap → Nx1 acc' H' → ∃ m, m < k ∧ ∃ j H' acc', Inv (X.blk s3 H2 scope ce (D :: fp)) ([] ++ pinsAt fp s7.heap) (wipe σ8 vs1) H' s' ∧ tn1 j s'.heap ∧ SA X.w D acc' s'.heap ∧ (∀ b ∈ D :: fp1, H' b = none) ∧ W1 j m acc' H' := fun {s' H' acc'} I' hd ha nx => by
              obtain ⟨m', hm, w'⟩ := hNx1 acc' H' nx
              have pin' : ∀ b ∈ fp1, ∀ o, s14.heap.get? b = some o → s'.heap.get? b = some o ∧ H' b = none := fun b hb o e =>
                let z := I'.pin (b, o) (List.mem_append_right _ (List.mem_append_right _ (mem_pinsAt hb e)))
                ⟨z.1, z.2.1⟩
              refine ⟨m', hm, j + 1, H', acc', I'.unpinned.weak (by rw [← hw15, wipe_length]) (fun j v e => by rw [← hw15] at e; exact (wipe_some e).1), T1.keep _ _ _ st14.1 fun b hb o e => (pin' b hb o e).1, ha, fun b hb => ?_, w'⟩
              rcases List.mem_cons.mp hb with rfl | hb
              · exact hd
              · obtain ⟨o, e, _⟩ := T1.obj _ _ st14.1 b hb
                exact (pin' b hb o e).2
            cases b1 with
            | false =>
              simp only [Bool.false_eq_true, if_false] at q16 ⊢
              obtain ⟨d16, a16⟩ := pD1 I16
              exact fin1 (less1 I16) d16 a16 q16
            | true =>
              simp only [if_true] at q16 ⊢
              refine thnF (pe.run _ s16 σ15 H16 _ I16 q16) fun z s17 ⟨yv, H17, I17, r17, kz, ey, room, nx⟩ => ?_
              subst ey
              obtain ⟨tk, rfl⟩ : ∃ t, z = .int kz t := r17
              obtain ⟨d17, a17⟩ := pD1 I17
              refine addS_ok (X := X.blk s3 H2 scope ce (D :: fp)) (less1 I17) d17 (I17.ok.exf D List.mem_cons_self).1 (.inl List.mem_cons_self) (fun x c e => (I17.ok.exf D List.mem_cons_self).2 x c e) (fun p hp => ?_) a17 room fun s18 I18 a18 => fin1 I18 d17 a18 nx
              have hp : p ∈ ([] : List (Addr × Obj)) ++ (([] ++ pinsAt fp s7.heap) ++ pinsAt fp1 s14.heap) := hp
              rcases List.mem_append.mp hp with y | y
              · exact nomatch y
              · rcases List.mem_append.mp y with y | y
                · exact fun e => hDf (e ▸ nP0 p y)
                · exact fun e => hD1 (e ▸ (of_pinsAt y).1)
        exact compStartS1_ok loop1 (T1.self X.A 0 _ _ _ st11 loop1)
  exact PpSet.codeAny_compStart_set loop (T.self X.A 0 _ _ _ st4 loop)
/-- as a value -/
theorem pe_sc2 {elt tg iter tg1 iter1 : Expr} {ifs ifs1 : List Expr} {scope : Scope} {own : List (PySem.Str × Nat)} {vs1 : List Nat} {pos : Pos} {wi wi1 : TI} {g g1 : TG} {tt tt1 : TT} {te : TE} (hc : X.calm = true) (hN : X.N.Nodup) (hi : PI X tg iter wi) (ok : BlkOk X.N X.env.scope scope own) (hv : ∀ i ∈ vs1, i ∈ own.map (·.2))
    (hg : ∀ (s : Shared) (H : Hp) (C : Addr) (cl : List (PySem.Str × Addr)) (fp : List Addr), PG (X.blk s H scope (compEnvC scope cl C X.env) fp) tg g) (ht : ∀ (s : Shared) (H : Hp) (C : Addr) (cl : List (PySem.Str × Addr)) (fp : List Addr), PTs (X.blk s H scope (compEnvC scope cl C X.env) fp) ifs tt)
    (hi1 : ∀ (s : Shared) (H : Hp) (C : Addr) (cl : List (PySem.Str × Addr)) (fp : List Addr), PI (X.blk s H scope (compEnvC scope cl C X.env) fp) tg1 iter1 wi1)
    (hg1 : ∀ (s : Shared) (H : Hp) (C : Addr) (cl : List (PySem.Str × Addr)) (fp : List Addr), PG (X.blk s H scope (compEnvC scope cl C X.env) fp) tg1 g1) (ht1 : ∀ (s : Shared) (H : Hp) (C : Addr) (cl : List (PySem.Str × Addr)) (fp : List Addr), PTs (X.blk s H scope (compEnvC scope cl C X.env) fp) ifs1 tt1)
    (he : ∀ (s : Shared) (H : Hp) (C : Addr) (cl : List (PySem.Str × Addr)) (fp : List Addr), PE (X.blk s H scope (compEnvC scope cl C X.env) fp) elt te) (hs : ∀ x, foldedSetIterable iter X.env x = pure x := by intro _; rfl) (hs1 : ∀ env x, foldedSetIterable iter1 env x = pure x := by intro _ _; rfl) :
    PE X (.SetComp elt [⟨tg, iter, ifs, 0⟩, ⟨tg1, iter1, ifs1, 0⟩] scope pos) (tSc2 X.w wi g tt wi1 g1 tt1 te (own.map (·.2)) vs1) := by
  refine ⟨fun pins s σ H Q I h => ?_⟩
  rw [PpSet.eval_SetComp]
  refine sc2_core hc hN I hi ok hv hg ht he hs hi1 hg1 ht1 hs1 h fun D C s' m H' I' q hn f => ⟨m, hn, fun h'' sb => ?_⟩
  obtain ⟨f0, f1, f2, f3, f4, f5⟩ := f
  exact ⟨.ref D, H', I'.turned (t' := s'.toks) (fun b o hb e => (sb.2 b hb).trans e) f0 f1 f3 f4 f5, rfl, q⟩
end
end Mi
set_option Elab.async false
set_option linter.all false
set_option maxRecDepth 100000
namespace Mi
open PySem PySem.Spec PyProof.Rows L2
theorem intsOf_is : ∀ {xs : List PV} {ns : List Int}, intsOf xs = some ns → xs = ns.map .int
  | [], ns, h => by
    injection h with h
    subst h
    rfl
  | x :: r, ns, h => by
    cases x with
    | int i =>
      obtain ⟨l, e, rfl⟩ := Option.map_eq_some_iff.mp (show (intsOf r).map (fun l => i :: l) = some ns from h)
      rw [intsOf_is e]
      rfl
    | _ => cases h
def ContI (K : PySem.W.Frag) (CT : Cts) (m : Nat → Addr) (G : Hp) (N : Nat) (acc : List Int) (Nx : List Int → Hp → Prop) : R (List PV) → Prop
  | .ok zs h' => ∃ ns : List Int, zs = ns.map PV.int ∧ acc.length + ns.length < 63 ∧ ∀ m' G' H', Ex m m' N → Sub G G' → HR K CT m' G' H' h' → Nx (acc ++ ns) H'
  | _ => False
section
variable {K : PySem.W.Frag} {CT : Cts} {cl : Cl}
theorem ContI.later {m m1 : Nat → Addr} {G G1 : Hp} {N N1 : Nat} {acc : List Int} {Nx : List Int → Hp → Prop} {r : R (List PV)} (p : ContI K CT m G N acc Nx r) (e : Ex m m1 N) (l : N ≤ N1) (t : Sub G G1) : ContI K CT m1 G1 N1 acc Nx r := by
  cases r with
  | ok zs h' =>
    obtain ⟨ns, e1, e2, q⟩ := p
    exact ⟨ns, e1, e2, fun m' G' H' a b => q m' G' H' (e.trans a l) (t.trans b)⟩
  | exc x h' => exact p
  | bad => exact p
theorem loop_genI {J : It} {i : Its} {m1 : Nat → Addr} {N1 : Nat} {G1 H : Hp} {h : PH} {acc : List Int} {Nx : List Int → Hp → Prop} {step : Nat → PV → PH → R (List PV)} {Tn : V → Hp → List Int → (List Int → Hp → Prop) → Prop} (w : IsW K CT J i m1 N1 G1)
    {m : Nat → Addr} {G : Hp} (hgro : ∀ n x h, Gro h (step n x h)) (x1 : Ex m1 m N1) (x2 : Sub G1 G) (x3 : N1 ≤ h.length) (R : HR K CT m G H h) (cont : ContI K CT m G h.length acc Nx (lcC i.g step acc.length i.xs h))
    (turn : ∀ px x m G H h acc Nx1, Ex m1 m N1 → Sub G1 G → N1 ≤ h.length → HR K CT m G H h → Rel K m h.length G px x → ContI K CT m G h.length acc Nx1 (nox (step acc.length px h)) → Tn x H acc Nx1) :
    ∃ W : Nat → Nat → List Int → Hp → Prop, (∃ k, W 0 k acc H) ∧ ∀ j k acc H, W j k acc H → (J.stop j H ∧ Nx acc H) ∨ (J.go j H ∧ ∃ Nx1 : List Int → Hp → Prop, (∀ acc' H', Nx1 acc' H' → ∃ k', k' < k ∧ W (j + 1) k' acc' H') ∧ ∀ x H', J.yld j H x H' → Tn x H' acc Nx1) := by
  refine ⟨fun j k acc H => k = i.xs.length - j ∧ j ≤ i.xs.length ∧ ∃ (m : Nat → Addr) (G : Hp) (h : PH), Ex m1 m N1 ∧ Sub G1 G ∧ N1 ≤ h.length ∧ HR K CT m G H h ∧ ContI K CT m G h.length acc Nx (lcC i.g step acc.length (i.xs.drop j) h),
    ⟨_, rfl, Nat.zero_le _, m, G, h, x1, x2, x3, R, cont⟩, ?_⟩
  rintro j k acc H ⟨rfl, hj, m, G, h, x1, x2, x3, R, q⟩
  by_cases hlt : j < i.xs.length
  · refine .inr ?_
    rw [List.drop_eq_getElem_cons hlt] at q
    unfold lcC at q
    split at q
    · rename_i okg
      refine ⟨w.go j m G H h x1 x2.t x3 R okg hlt, fun acc H => ∃ (m : Nat → Addr) (G : Hp) (h : PH), Ex m1 m N1 ∧ Sub G1 G ∧ N1 ≤ h.length ∧ HR K CT m G H h ∧ ContI K CT m G h.length acc Nx (lcC i.g step acc.length (i.xs.drop (j + 1)) h),
        fun acc' H' z => ⟨_, by omega, rfl, hlt, z⟩, fun x H' y => ?_⟩
      obtain ⟨px, G', ep, sg, R', rx, kp⟩ := w.yl j m G H h x H' x1 x2.t x3 R okg hlt y
      rw [List.getElem?_eq_getElem hlt] at ep
      injection ep with ep
      rw [ep] at q
      refine turn px x m G' H' h acc _ x1 (x2.trans sg) x3 R' rx ?_
      have hg := nox_gro (hgro acc.length px h)
      have q := ContI.later q Ex.refl (Nat.le_refl _) sg
      cases es : nox (step acc.length px h) with
      | exc x h1 => rw [es] at q; exact q.elim
      | bad => rw [es] at q; exact q.elim
      | ok ys h1 =>
        rw [es] at q hg
        have l1 : h.length ≤ h1.length := hg
        simp only [bind_ok] at q
        cases ez : lcC i.g step (acc.length + ys.length) (i.xs.drop (j + 1)) h1 with
        | exc x h2 => rw [ez] at q; exact q.elim
        | bad => rw [ez] at q; exact q.elim
        | ok zs h2 =>
          rw [ez] at q
          simp only [bind_ok] at q
          obtain ⟨ns, en, few, q⟩ := q
          obtain ⟨n1, n2, e0, e1, e2⟩ := List.map_eq_append_iff.mp en.symm
          subst e0
          rw [List.length_append] at few
          refine ⟨n1, e1.symm, by omega, fun m3 G3 H3 y1 y2 R3 => ⟨m3, G3, h1, x1.trans y1 x3, (x2.trans sg).trans y2, Nat.le_trans x3 l1, R3, ?_⟩⟩
          have el : (acc ++ n1).length = acc.length + ys.length := by rw [List.length_append, ← e1, List.length_map]
          rw [el, ez]
          refine ⟨n2, e2.symm, by rw [List.length_append]; omega, fun m4 G4 H4 z1 z2 R4 => ?_⟩
          rw [List.append_assoc]
          exact q m4 G4 H4 (y1.trans z1 l1) (y2.trans z2) R4
    · exact q.elim
  · have ej : j = i.xs.length := by omega
    subst ej
    refine .inl ?_
    rw [List.drop_length] at q
    unfold lcC at q
    split at q
    · rename_i okg
      obtain ⟨ns, en, few, q⟩ := q
      have en : ns = [] := List.map_eq_nil_iff.mp en.symm
      subst en
      rw [List.append_nil] at q
      exact ⟨w.st m G H h x1 x2.t x3 R okg, q m G H Ex.refl Sub.refl R⟩
    · exact q.elim
theorem turn_oneI {t : T} {tc : List E} {ce : E} {ow : List Nat} {m1 : Nat → Addr} {N1 : Nat} {G1 : Hp} {ρ : Mi.Env} {σ : L2.St} (hcl : GroC cl) (s : SR K m1 N1 G1 ρ σ) (px : PV) (x : V) (m : Nat → Addr) (G H : Hp) (h : PH) (acc : List Int) (Nx1 : List Int → Hp → Prop)
    (x1 : Ex m1 m N1) (x2 : Sub G1 G) (x3 : N1 ≤ h.length) (Rg : HR K CT m G H h) (rx : Rel K m h.length G px x) (q : ContI K CT m G h.length acc Nx1 (nox ((lcS cl t ow tc ce ρ px h).bind fun o h1 => .ok o.toList h1))) :
    tG K CT ow t x (wipe σ ow) H fun σ2 H2 => wipe σ2 ow = wipe σ ow ∧ tTs K CT cl W0 tc σ2 H2 fun b H3 => if b = true then tE K CT cl W0 ce σ2 H3 fun y H4 => ∃ z : Int, y = .int z ∧ acc.length + 1 < scanBound ∧ Nx1 (acc ++ [z]) H4 else Nx1 acc H3 := by
  cases eb : bindT h t px (wipeE ρ ow) with
  | none =>
    simp only [lcS, eb, nox, bind_bad] at q
    exact q.elim
  | some ρ1 =>
    have ez : lcS cl t ow tc ce ρ px h = (evc cl tc ρ1 h).bind fun b h3 => if b then (ev cl ce ρ1 h3).bind fun y h4 => .ok (some y) h4 else .ok none h3 := by simp only [lcS, eb]
    rw [ez] at q
    have sw := (s.mono x1 x3 x2).wipe ow
    refine ⟨m, _, h, wipeE ρ ow, ρ1, px, Rg, sw, rx, eb, fun σ2 s2 w2 => ⟨w2.trans (wipe_idem σ ow), m, _, h, ρ1, Rg, s2, ?_⟩⟩
    have g1 := evc_gro hcl tc ρ1 h
    cases ec : evc cl tc ρ1 h with
    | exc x h3 =>
      simp only [ec, bind_exc, nox] at q
      exact q.elim
    | bad =>
      simp only [ec, bind_bad, nox] at q
      exact q.elim
    | ok b h3 =>
      rw [ec] at g1
      have l3 : h.length ≤ h3.length := g1
      simp only [ec, bind_ok] at q
      intro m3 G3 H3 b' y1 y2 R3 eb'
      have eb' : b = b' := eb'
      subst eb'
      cases b with
      | false =>
        rw [if_neg (by simp)]
        simp only [Bool.false_eq_true, if_false, nox, bind_ok, Option.toList] at q
        obtain ⟨ns, en, few, q⟩ := q
        have en : ns = [] := List.map_eq_nil_iff.mp en.symm
        subst en
        rw [List.append_nil] at q
        exact q m3 G3 H3 y1 y2 R3
      | true =>
        rw [if_pos rfl]
        simp only [if_true] at q
        refine ⟨m3, G3, h3, ρ1, R3, s2.mono y1 l3 y2, ?_⟩
        have g2 := ev_gro hcl ce ρ1 h3
        cases ee : ev cl ce ρ1 h3 with
        | exc x h4 =>
          simp only [ee, bind_exc, nox] at q
          exact q.elim
        | bad =>
          simp only [ee, bind_bad, nox] at q
          exact q.elim
        | ok yv h4 =>
          simp only [ee, bind_ok, nox, Option.toList] at q
          intro m4 G4 H4 v z1 z2 R4 rv
          obtain ⟨ns, en, few, q⟩ := q
          obtain ⟨z, n2, rfl, e1, e2⟩ := List.map_eq_cons_iff.mp en.symm
          have e2 : n2 = [] := List.map_eq_nil_iff.mp e2
          subst e2 e1
          obtain rfl := rv.int_inv
          exact ⟨z, rfl, by simp at few; unfold scanBound; omega, q m4 G4 H4 (y1.trans z1 l3) (y2.trans z2) R4⟩
theorem turn_twoI {t t2 : T} {ow ow2 : List Nat} {tc tc2 its2 : List E} {ik2 : IK} {ce : E} {m1 : Nat → Addr} {N1 : Nat} {G1 : Hp} {ρ : Mi.Env} {σ : L2.St} (hcl : GroC cl) (s : SR K m1 N1 G1 ρ σ) (px : PV) (x : V) (m : Nat → Addr) (G H : Hp) (h : PH) (acc : List Int) (Nx1 : List Int → Hp → Prop)
    (x1 : Ex m1 m N1) (x2 : Sub G1 G) (x3 : N1 ≤ h.length) (Rg : HR K CT m G H h) (rx : Rel K m h.length G px x) (q : ContI K CT m G h.length acc Nx1 (nox (lcS2 cl t ow tc t2 ik2 its2 ow2 tc2 ce ρ acc.length px h))) :
    tG K CT ow t x (wipe σ ow) H fun σ2 H2 => wipe σ2 ow = wipe σ ow ∧ tTs K CT cl W0 tc σ2 H2 fun b H3 => if b = true then tI K CT cl W0 ik2 its2 σ2 H3 fun J1 H4 => ∃ W1 : Nat → Nat → List Int → Hp → Prop, (∃ k, W1 0 k acc H4) ∧ ∀ j k acc H, W1 j k acc H →
      (J1.stop j H ∧ Nx1 acc H) ∨ (J1.go j H ∧ ∃ Nx2 : List Int → Hp → Prop, (∀ acc' H', Nx2 acc' H' → ∃ k', k' < k ∧ W1 (j + 1) k' acc' H') ∧ ∀ x H', J1.yld j H x H' → tG K CT ow2 t2 x (wipe σ2 ow2) H' fun σ3 H5 => wipe σ3 ow2 = wipe σ2 ow2 ∧ tTs K CT cl W0 tc2 σ3 H5 fun b H6 =>
        if b = true then tE K CT cl W0 ce σ3 H6 fun y H7 => ∃ z : Int, y = .int z ∧ acc.length + 1 < scanBound ∧ Nx2 (acc ++ [z]) H7 else Nx2 acc H6)
      else Nx1 acc H3 := by
  cases eb : bindT h t px (wipeE ρ ow) with
  | none =>
    simp only [lcS2, eb, nox] at q
    exact q.elim
  | some ρ1 =>
    have ez : lcS2 cl t ow tc t2 ik2 its2 ow2 tc2 ce ρ acc.length px h = (evc cl tc ρ1 h).bind fun b h3 => if b then (itsE cl ik2 its2 ρ1 h3).bind fun i2 h4 => if acc.length + i2.xs.length < szl then lcL i2.g (lcS cl t2 ow2 tc2 ce ρ1) i2.xs h4 else .bad
      else .ok [] h3 := by simp only [lcS2, eb]
    rw [ez] at q
    have sw := (s.mono x1 x3 x2).wipe ow
    refine ⟨m, _, h, wipeE ρ ow, ρ1, px, Rg, sw, rx, eb, fun σ2 s2 w2 => ⟨w2.trans (wipe_idem σ ow), m, _, h, ρ1, Rg, s2, ?_⟩⟩
    have g1 := evc_gro hcl tc ρ1 h
    cases ec : evc cl tc ρ1 h with
    | exc x h3 =>
      simp only [ec, bind_exc, nox] at q
      exact q.elim
    | bad =>
      simp only [ec, bind_bad, nox] at q
      exact q.elim
    | ok b h3 =>
      rw [ec] at g1
      have l3 : h.length ≤ h3.length := g1
      simp only [ec, bind_ok] at q
      intro m3 G3 H3 b' y1 y2 R3 eb'
      have eb' : b = b' := eb'
      subst eb'
      cases b with
      | false =>
        rw [if_neg (by simp)]
        simp only [Bool.false_eq_true, if_false, nox] at q
        obtain ⟨ns, en, few, q⟩ := q
        have en : ns = [] := List.map_eq_nil_iff.mp en.symm
        subst en
        rw [List.append_nil] at q
        exact q m3 G3 H3 y1 y2 R3
      | true =>
        rw [if_pos rfl]
        simp only [if_true] at q
        have s3 := s2.mono y1 l3 y2
        refine ⟨m3, G3, h3, ρ1, R3, s3, ?_⟩
        have g2 := itsE_gro (cl := cl) hcl (ik := ik2) (cs := its2) (ρ := ρ1) (h := h3)
        cases ee : itsE cl ik2 its2 ρ1 h3 with
        | exc x h4 =>
          simp only [ee, bind_exc, nox] at q
          exact q.elim
        | bad =>
          simp only [ee, bind_bad, nox] at q
          exact q.elim
        | ok i2 h4 =>
          rw [ee] at g2
          have l4 : h3.length ≤ h4.length := g2
          simp only [ee, bind_ok] at q
          split at q
          · intro m4 G4 H4 J z1 z2 R4 w
            refine loop_genI (step := fun _ x h => (lcS cl t2 ow2 tc2 ce ρ1 x h).bind fun o h1 => .ok o.toList h1) (acc := acc) (Nx := Nx1) w (fun _ x h => (lcS_gro hcl x h).bind fun _ _ _ => Gro.refl) Ex.refl Sub.refl (Nat.le_refl _) R4 ?_
              fun px x m G H h acc' Nx2 x1 x2 x3 R rx q => turn_oneI hcl (s3.mono z1 l4 z2) px x m G H h acc' Nx2 x1 x2 x3 R rx q
            rw [lcL_C]
            have q' := ContI.later q (y1.trans z1 l3) (Nat.le_trans l3 l4) (y2.trans z2)
            cases ez : lcL i2.g (lcS cl t2 ow2 tc2 ce ρ1) i2.xs h4 with
            | ok zs h5 =>
              rw [ez] at q'
              exact q'
            | exc _ _ => exact (lcL_noexc ez).elim
            | bad => rw [ez] at q'; exact q'.elim
          · exact q.elim
end
section
variable {X : Cx} {CT : Cts} {cl : Cl} {W : WX} {cs : List E} {pos p q2 : Pos}
theorem sc2_imp {ik : IK} {t t2 : T} {tc tc2 its2 : List E} {ik2 : IK} {ce : E} {ow ow2 : List Nat} (hcl : GroC cl) {σ : L2.St} {H : Hp} {Q Qs : VK} (hE : tE X.K CT cl W (.sc2 ce t ik cs tc ow t2 ik2 its2 tc2 ow2) σ H Q)
    (hQ : ∀ (d : Addr) (c : Nat) (ns : List Int) (H1 : Hp), c ≤ ns.length → ns.length < 63 → H1 d = none → (∀ d2, upd H1 d (SetO X.w d (fun j => decide (j ∈ ns)) c) d2 = none → Q (.ref d2) (upd (upd H1 d (SetO X.w d (fun j => decide (j ∈ ns)) c)) d2 (.lst ((sortU ns).map .int)))) → Qs (.ref d) (upd H1 d (SetO X.w d (fun j => decide (j ∈ ns)) c))) :
    tSc2 X.w (tI X.K CT cl W ik cs) (tG X.K CT ow t) (tTs X.K CT cl W0 tc) (tI X.K CT cl W0 ik2 its2) (tG X.K CT ow2 t2) (tTs X.K CT cl W0 tc2) (tE X.K CT cl W0 ce) ow ow2 σ H Qs := by
  obtain ⟨m, G, h, ρ, R, s, q⟩ := hE
  simp only [ev] at q
  have ez : ∀ (ρ1 : Mi.Env) (h3 : PH) (f : Its → PH → Mi.R (List PV)), ((evs cl its2 ρ1 h3).bind fun us h4 => match itsOf ik2 us h4 with
      | some i2 => f i2 h4
      | none => .bad) = (itsE cl ik2 its2 ρ1 h3).bind f := fun ρ1 h3 f => lc_bind
  have q := (congrArg (Post X.K CT (Rel X.K) W σ m G h.length Q) (lc_bind (cl := cl) (cs := cs) (ik := ik) (ρ := ρ) (h := h) (f := fun i h1 =>
        (lcC i.g (fun n x h2 => match bindT h2 t x (wipeE ρ ow) with
          | some ρ1 => (evc cl tc ρ1 h2).bind fun b h3 => if b then (evs cl its2 ρ1 h3).bind fun us h4 => match itsOf ik2 us h4 with
              | some i2 => if n + i2.xs.length < szl then lcL i2.g (lcS cl t2 ow2 tc2 ce ρ1) i2.xs h4 else .bad
              | none => .bad
            else .ok [] h3
          | none => .bad) 0 i.xs h1).bind fun ys h5 => match intsOf ys with
            | some ns => if ns.length < 63 then .ok (.ref h5.length) (h5 ++ [.lst ((sortU ns).map .int)]) else .bad
            | none => .bad))).mp q
  have ef : (fun n x h2 => match bindT h2 t x (wipeE ρ ow) with
          | some ρ1 => (evc cl tc ρ1 h2).bind fun b h3 => if b then (evs cl its2 ρ1 h3).bind fun us h4 => match itsOf ik2 us h4 with
              | some i2 => if n + i2.xs.length < szl then lcL i2.g (lcS cl t2 ow2 tc2 ce ρ1) i2.xs h4 else .bad
              | none => .bad
            else .ok [] h3
          | none => .bad : Nat → PV → PH → Mi.R (List PV)) = lcS2 cl t ow tc t2 ik2 its2 ow2 tc2 ce ρ := by
    funext n x h2
    unfold lcS2
    cases e : bindT h2 t x (wipeE ρ ow) with
    | none => rfl
    | some ρ1 =>
      show (evc cl tc ρ1 h2).bind _ = (evc cl tc ρ1 h2).bind _
      congr 1
      funext b h3
      cases b with
      | false => rfl
      | true => exact ez ρ1 h3 fun i2 h4 => if n + i2.xs.length < szl then lcL i2.g (lcS cl t2 ow2 tc2 ce ρ1) i2.xs h4 else .bad
  rw [ef] at q
  refine ⟨m, G, h, ρ, R, s, (Post.bind (rel1 := relI X.K CT) (itsE_gro hcl) q).mono fun J H1 ⟨i, h1, m1, G1, e1, e2, R1, w, le, q1⟩ => ?_⟩
  refine loop_genI (step := lcS2 cl t ow tc t2 ik2 its2 ow2 tc2 ce ρ) (acc := []) (Nx := fun acc H => ∀ D c, c ≤ acc.length → H D = none → Qs (.ref D) (upd H D (SetO X.w D (fun j => decide (j ∈ acc)) c))) w (fun n x h => lcS2_gro hcl n x h) Ex.refl Sub.refl (Nat.le_refl _) R1 ?_
    fun px x m G H h acc Nx1 x1 x2 x3 R rx q => turn_twoI hcl (s.mono e1 le e2) px x m G H h acc Nx1 x1 x2 x3 R rx q
  cases ez : lcC i.g (lcS2 cl t ow tc t2 ik2 its2 ow2 tc2 ce ρ) 0 i.xs h1 with
  | ok zs h2 =>
    have hg := lcC_gro (g := i.g) (fun n x h => lcS2_gro (t := t) (ow := ow) (tc := tc) (t2 := t2) (ik2 := ik2) (its2 := its2) (ow2 := ow2) (tc2 := tc2) (ce := ce) (ρ := ρ) hcl n x h) 0 i.xs h1
    rw [ez] at q1 hg
    simp only [bind_ok] at q1
    split at q1
    · rename_i ns en
      split at q1
      · rename_i few
        refine ⟨ns, intsOf_is en, by simpa using few, fun m' G' H' y1 y2 R' => ?_⟩
        rw [List.nil_append]
        intro D c hc hD
        refine hQ D c ns H' hc few hD fun d2 hd2 => ?_
        have q2 := Post.later q1 y1 hg y2
        have ne : d2 ≠ D := fun z => by rw [z, upd_same] at hd2; cases hd2
        have hd2' : H' d2 = none := by rw [upd_ne ne] at hd2; exact hd2
        have R2 := R'.new (p := d2) (o := .lst ((sortU ns).map .int)) (H' := upd (upd H' D (SetO X.w D (fun j => decide (j ∈ ns)) c)) d2 (.lst ((sortU ns).map .int))) hd2' (fun b hb => by
          rw [upd_ne fun z => hb (by rw [z]; exact hd2'), upd_ne fun z => hb (by rw [z]; exact hD)]) ⟨_, by rw [upd_same], (rel_ints _).mono mx_ex (Nat.le_succ _) Sub.refl⟩ rfl
        have rr : Rel X.K (mx m' h2.length d2) (h2 ++ [PO.lst ((sortU ns).map .int)]).length G' (.ref h2.length) (.ref (mx m' h2.length d2 h2.length)) := .ref (by rw [List.length_append]; simp)
        rw [mx_new] at rr
        exact q2 _ G' _ _ mx_ex Sub.refl R2 rr
      · exact q1.elim
    · exact q1.elim
  | exc _ _ => exact (lcC_noexc ez).elim
  | bad => rw [ez] at q1; exact q1.elim
theorem I_ssc2 {elt iter tg1 iter1 : Expr} {ifs ifs1 : List Expr} {tg : Expr} {scope : Scope} {own : List (Str × Nat)} {ik ik2 : IK} {t t2 : T} {tc tc2 its2 : List E} {ce : E} {ow ow2 : List Nat} (how : ow = own.map (·.2)) (hv : ∀ i ∈ ow2, i ∈ own.map (·.2)) (hcl : GroC cl) (hc : X.calm = true) (hN : X.N.Nodup) (hi : PI X tg iter (tI X.K CT cl W ik cs)) (ok : BlkOk X.N X.env.scope scope own)
    (hg : ∀ (s : Shared) (H : Hp) (C : Addr) (l : List (Str × Addr)) (fp : List Addr), PG (X.blk s H scope (compEnvC scope l C X.env) fp) tg (tG X.K CT ow t))
    (ht : ∀ (s : Shared) (H : Hp) (C : Addr) (l : List (Str × Addr)) (fp : List Addr), PTs (X.blk s H scope (compEnvC scope l C X.env) fp) ifs (tTs X.K CT cl W0 tc))
    (hi1 : ∀ (s : Shared) (H : Hp) (C : Addr) (l : List (Str × Addr)) (fp : List Addr), PI (X.blk s H scope (compEnvC scope l C X.env) fp) tg1 iter1 (tI X.K CT cl W0 ik2 its2))
    (hg1 : ∀ (s : Shared) (H : Hp) (C : Addr) (l : List (Str × Addr)) (fp : List Addr), PG (X.blk s H scope (compEnvC scope l C X.env) fp) tg1 (tG X.K CT ow2 t2))
    (ht1 : ∀ (s : Shared) (H : Hp) (C : Addr) (l : List (Str × Addr)) (fp : List Addr), PTs (X.blk s H scope (compEnvC scope l C X.env) fp) ifs1 (tTs X.K CT cl W0 tc2))
    (he : ∀ (s : Shared) (H : Hp) (C : Addr) (l : List (Str × Addr)) (fp : List Addr), PE (X.blk s H scope (compEnvC scope l C X.env) fp) elt (tE X.K CT cl W0 ce)) (hs : ∀ x, foldedSetIterable iter X.env x = pure x) (hs1 : ∀ env x, foldedSetIterable iter1 env x = pure x)
    (hgl : Gl X "sorted") (hm : X.mg "sorted" = none) (b1 : bootBuiltins "sorted" = some (.builtin "sorted"))
    (hst : starEach [.SetComp elt [⟨tg, iter, ifs, 0⟩, ⟨tg1, iter1, ifs1, 0⟩] scope q2] X.env = (false, eval (.SetComp elt [⟨tg, iter, ifs, 0⟩, ⟨tg1, iter1, ifs1, 0⟩] scope q2) X.env) :: starEach [] X.env) (hpl : (backTo pos (starEach [] X.env)).any (·.1) = false) :
    PE X (.Call (.Name "sorted" p) [.SetComp elt [⟨tg, iter, ifs, 0⟩, ⟨tg1, iter1, ifs1, 0⟩] scope q2] [] pos) (tE X.K CT cl W (.sc2 ce t ik cs tc ow t2 ik2 its2 tc2 ow2)) := by
  refine PEimp (pe_callB (cr_sortedSet hc) hgl hm b1 (pa_cons (pe_sc2 hc hN hi ok hv hg ht hi1 hg1 ht1 he hs hs1) pa_nil hst) (by decide) (by decide) hst hpl) fun σ H Q hE => ?_
  rw [← how]
  refine sc2_imp (Qs := fun x H1 => rSortedSet X.w [x] H1 Q) hcl hE fun d c ns H1 le few hd q => ?_
  refine ⟨d, _, c, rfl, upd_same, by omega, fun ns' d2 ha hm hn hd2 => ?_⟩
  have e1 : ns' = sortU ns := asc_mem ha (sortU_asc ns) fun k => by rw [hm k, sortU_mem, decide_eq_true_eq]
  rw [e1]
  exact q d2 hd2
end
end Mi
set_option Elab.async false
set_option linter.all false
set_option maxRecDepth 100000
set_option maxHeartbeats 4000000
namespace Mk14
open PySem PySem.Spec PyProof.Rows L2 Mi
/-! ### the defs, compact -/
def kv_SIZES : List (PV × PV) := [(.str ['n', 'o', 'n', 'e'], .int 1), (.str ['e', 'm', 'p', 't', 'y'], .int 1), (.str ['l', 'e', 't', 't', 'e', 'r'], .int 2), (.str ['a', 'n', 'y'], .int 1), (.str ['j', 'o', 'i', 'n'], .int 3), (.str ['o', 'r'], .int 3), (.str ['a', 'n', 'd'], .int 3), (.str ['n', 'o', 't'], .int 2), (.str ['s', 't', 'a', 'r'], .int 2)]
def c_is_alphabet : Fn := ⟨1, 1, [.ite (.or (.nt (.isi (.v 0) ["str"])) (.or (.cmp .eq (.v 0) (.k (.str []))) (.nt (.blt "all" [.lc (.cmp .isin (.v 1) (.k (.str ['a', 'b', 'c', 'd']))) (.nm 1) .val [.v 0] [] [1]])))) [.ret (.k (.bl false))] [],
  .ret (.cmp .eq (.blt "list" [.v 0]) (.blt "sorted set" [.v 0]))]⟩
def c_need_letters : Fn := ⟨1, 0, [.ite (.nt (.call "is_alphabet" [.v 0])) [.raise "BadLetters" [.k (.str ['n', 'o', 't', ' ', 'a', 'n', ' ', 'a', 'l', 'p', 'h', 'a', 'b', 'e', 't'])]] []]⟩
def c_is_text : Fn := ⟨2, 1, [.ex (.call "need_letters" [.v 0]),
  .ret (.and (.isi (.v 1) ["str"]) (.blt "all" [.lc (.cmp .isin (.v 2) (.v 0)) (.nm 2) .val [.v 1] [] [2]]))]⟩
def c_is_node : Fn := ⟨2, 0, [.ite (.or (.nt (.isi (.v 1) ["tuple"])) (.or (.cmp .eq (.blt "len" [.v 1]) (.k (.int 0))) (.or (.nt (.isi (.idx (.v 1) (.k (.int 0))) ["str"])) (.gin true kv_SIZES (.idx (.v 1) (.k (.int 0))))))) [.ret (.k (.bl false))] [],
  .ite (.cmp .ne (.blt "len" [.v 1]) (.gget kv_SIZES (.idx (.v 1) (.k (.int 0))))) [.ret (.k (.bl false))] [],
  .ret (.or (.cmp .ne (.idx (.v 1) (.k (.int 0))) (.k (.str ['l', 'e', 't', 't', 'e', 'r']))) (.and (.isi (.idx (.v 1) (.k (.int 1))) ["str"]) (.and (.cmp .eq (.blt "len" [.idx (.v 1) (.k (.int 1))]) (.k (.int 1))) (.cmp .isin (.idx (.v 1) (.k (.int 1))) (.v 0)))))]⟩
def c_inner_parts : Fn := ⟨1, 0, [.ret (.ite (.cmp .isin (.idx (.v 0) (.k (.int 0))) (.k (.tup [.str ['n', 'o', 'n', 'e'], .str ['e', 'm', 'p', 't', 'y'], .str ['l', 'e', 't', 't', 'e', 'r'], .str ['a', 'n', 'y']]))) (.tup []) (.slc (.v 0) (some (.k (.int 1))) none))]⟩
def c_is_pattern : Fn := ⟨2, 5, [.ex (.call "need_letters" [.v 0]),
  .par [2, 3] [.lst [.tup [.v 1, .k (.int 1)]], .k (.int 0)],
  .while_ (.cmp .ne (.v 2) (.lst [])) [.asg (.tup [.nm 4, .nm 5]) (.mth "pop" (.v 2) []),
  .aug 3 false (.k (.int 1)),
  .ite (.or (.cmp .gt (.v 5) (.k (.int 15))) (.or (.cmp .gt (.v 3) (.k (.int 60))) (.nt (.call "is_node" [.v 0, .v 4])))) [.ret (.k (.bl false))] [],
  .ex (.mth "extend" (.v 2) [.lc (.tup [.v 6, .bop .add (.v 5) (.k (.int 1))]) (.nm 6) .val [.call "inner_parts" [.v 4]] [] [6]])],
  .ret (.k (.bl true))]⟩
def c_need_pattern : Fn := ⟨2, 0, [.ite (.nt (.call "is_pattern" [.v 0, .v 1])) [.raise "BadPattern" [.k (.str ['n', 'o', 't', ' ', 'a', ' ', 'p', 'a', 't', 't', 'e', 'r', 'n'])]] []]⟩
def c_Matcher____init__ : Fn := ⟨2, 0, [.setf (.v 0) "text" (.v 1),
  .setf (.v 0) "known" (.dct [] [])]⟩
def c_Matcher__ends : Fn := ⟨3, 0, [.ite (.cmp .notin (.tup [.v 1, .v 2]) (.fld (.v 0) "known")) [.seti (.fld (.v 0) "known") (.tup [.v 1, .v 2]) (.mto "ends_of" ["Matcher"] (.v 0) [.v 1, .v 2])] [],
  .ret (.idx (.fld (.v 0) "known") (.tup [.v 1, .v 2]))]⟩
def c_Matcher__ends_of : Fn := ⟨3, 6, [.par [5, 6] [.idx (.v 1) (.k (.int 0)), .blt "len" [.fld (.v 0) "text"]],
  .ite (.cmp .eq (.v 5) (.k (.str ['n', 'o', 'n', 'e']))) [.ret (.lst [])] [],
  .ite (.cmp .eq (.v 5) (.k (.str ['e', 'm', 'p', 't', 'y']))) [.ret (.lst [.v 2])] [],
  .ite (.cmp .isin (.v 5) (.tup [.k (.str ['l', 'e', 't', 't', 'e', 'r']), .k (.str ['a', 'n', 'y'])])) [.ret (.ite (.and (.cmp .lt (.v 2) (.v 6)) (.or (.cmp .eq (.v 5) (.k (.str ['a', 'n', 'y']))) (.cmp .eq (.idx (.fld (.v 0) "text") (.v 2)) (.idx (.v 1) (.k (.int 1)))))) (.lst [.bop .add (.v 2) (.k (.int 1))]) (.lst []))] [],
  .asg (.nm 3) (.ite (.cmp .ne (.v 5) (.k (.str ['s', 't', 'a', 'r']))) (.mto "ends" ["Matcher"] (.v 0) [.idx (.v 1) (.k (.int 1)), .v 2]) (.lst [])),
  .ite (.cmp .eq (.v 5) (.k (.str ['n', 'o', 't']))) [.ret (.lc (.v 7) (.nm 7) .rng2 [.v 2, .bop .add (.v 6) (.k (.int 1))] [.cmp .notin (.v 7) (.v 3)] [7])] [],
  .ite (.cmp .eq (.v 5) (.k (.str ['s', 't', 'a', 'r']))) [.ret (.mto "ends_of_star" ["Matcher"] (.v 0) [.idx (.v 1) (.k (.int 1)), .v 2])] [],
  .ite (.cmp .eq (.v 5) (.k (.str ['j', 'o', 'i', 'n']))) [.ret (.sc2 (.v 7) (.nm 8) .val [.v 3] [] [8, 7] (.nm 7) .val [.mto "ends" ["Matcher"] (.v 0) [.idx (.v 1) (.k (.int 2)), .v 8]] [] [7])] [],
  .asg (.nm 4) (.mto "ends" ["Matcher"] (.v 0) [.idx (.v 1) (.k (.int 2)), .v 2]),
  .ite (.cmp .eq (.v 5) (.k (.str ['o', 'r']))) [.ret (.blt "sorted set" [.bop .add (.v 3) (.v 4)])] [],
  .ret (.lc (.v 7) (.nm 7) .val [.v 3] [.cmp .isin (.v 7) (.v 4)] [7])]⟩
def c_Matcher__ends_of_star : Fn := ⟨3, 3, [.par [3, 4] [.dsp [.v 2, .k (.bl true)], .lst [.v 2]],
  .while_ (.cmp .ne (.v 4) (.lst [])) [.for_ (.nm 5) .val [.mto "ends" ["Matcher"] (.v 0) [.v 1, .mth "pop" (.v 4) []]] [.ite (.cmp .notin (.v 5) (.v 3)) [.seti (.v 3) (.v 5) (.k (.bl true)),
  .ex (.mth "append" (.v 4) [.v 5])] []]],
  .ret (.blt "sorted dict" [.v 3])]⟩
def c_matches : Fn := ⟨3, 0, [.ex (.call "need_pattern" [.v 0, .v 1]),
  .ite (.nt (.call "is_text" [.v 0, .v 2])) [.raise "BadText" [.k (.str ['n', 'o', 't', ' ', 'a', ' ', 't', 'e', 'x', 't', ' ', 'o', 'v', 'e', 'r', ' ', 't', 'h', 'e', ' ', 'a', 'l', 'p', 'h', 'a', 'b', 'e', 't'])]] [],
  .ret (.cmp .isin (.blt "len" [.v 2]) (.mto "ends" ["Matcher"] (.new "Matcher" [.v 2]) [.v 1, .k (.int 0)]))]⟩
def c__law_begin : Fn := ⟨2, 0, [.ret (.lst [.blt "max" [.k (.int 0), .bop .sub (.v 0) (.bop .pow (.k (.int 10)) (.k (.int 18)))], .bop .add (.v 0) (.bop .mul (.k (.int 977)) (.v 1)), .k (.int 0)])]⟩
def c__law_draw : Fn := ⟨2, 1, [.ite (.cmp .gt (.idx (.v 0) (.k (.int 0))) (.k (.int 0))) [.asg (.nm 2) (.bop .mod (.blt "int" [.idx (.v 0) (.k (.int 0))]) (.v 1)),
  .seti (.v 0) (.k (.int 0)) (.bop .fdiv (.idx (.v 0) (.k (.int 0))) (.v 1)),
  .ret (.v 2)] [],
  .seti (.v 0) (.k (.int 2)) (.bop .add (.idx (.v 0) (.k (.int 2))) (.k (.int 1))),
  .asg (.nm 2) (.bop .add (.bop .mod (.blt "int" [.idx (.v 0) (.k (.int 1))]) (.k (.int 2147483629))) (.bop .mul (.k (.int 104729)) (.idx (.v 0) (.k (.int 2))))),
  .asg (.nm 2) (.bop .mul (.v 2) (.bop .add (.bop .add (.bop .mod (.blt "int" [.idx (.v 0) (.k (.int 1))]) (.k (.int 2147483587))) (.bop .mul (.bop .mul (.k (.int 7919)) (.idx (.v 0) (.k (.int 2)))) (.idx (.v 0) (.k (.int 2))))) (.k (.int 11)))),
  .ret (.bop .mod (.blt "int" [.bop .fdiv (.bop .mod (.blt "int" [.bop .pow (.v 2) (.k (.int 3))]) (.k (.int 2147483647))) (.k (.int 11))]) (.v 1))]⟩
def c__law_pick : Fn := ⟨2, 0, [.ret (.idx (.v 1) (.call "_law_draw" [.v 0, .blt "len" [.v 1]]))]⟩
def c__law_texts : Fn := ⟨2, 6, [.par [3, 4] [.lst [.k (.str [])], .lst [.k (.str [])]],
  .for_ (.nm 2) .rng [.v 1] [.asg (.nm 5) (.lst []),
  .for_ (.nm 6) .val [.v 4] [.asg (.nm 5) (.bop .add (.v 5) (.lc (.bop .add (.v 6) (.v 7)) (.nm 7) .val [.v 0] [] [7]))],
  .asg (.nm 4) (.v 5),
  .asg (.nm 3) (.bop .add (.v 3) (.v 4))],
  .ret (.v 3)]⟩
def c__law_pattern : Fn := ⟨3, 3, [.asg (.nm 3) (.ite (.cmp .gt (.v 2) (.k (.int 1))) (.call "_law_draw" [.v 0, .k (.int 9)]) (.call "_law_draw" [.v 0, .k (.int 4)])),
  .ite (.cmp .lt (.v 3) (.k (.int 4))) [.asg (.nm 5) (.lst [.tup [.k (.str ['l', 'e', 't', 't', 'e', 'r']), .call "_law_pick" [.v 0, .v 1]], .tup [.k (.str ['a', 'n', 'y'])], .tup [.k (.str ['e', 'm', 'p', 't', 'y'])], .tup [.k (.str ['n', 'o', 'n', 'e'])]]),
  .ret (.call "_law_pick" [.v 0, .slc (.v 5) none (some (.bop .sub (.k (.int 4)) (.bop .mod (.blt "int" [.v 3]) (.k (.int 2)))))])] [],
  .ite (.cmp .isin (.v 3) (.tup [.k (.int 4), .k (.int 5)])) [.ret (.tup [.idx (.lst [.k (.str ['n', 'o', 't']), .k (.str ['s', 't', 'a', 'r'])]) (.bop .sub (.v 3) (.k (.int 4))), .call "_law_pattern" [.v 0, .v 1, .bop .sub (.v 2) (.k (.int 1))]])] [],
  .asg (.nm 4) (.idx (.lst [.k (.str ['j', 'o', 'i', 'n']), .k (.str ['o', 'r']), .k (.str ['a', 'n', 'd'])]) (.bop .sub (.v 3) (.k (.int 6)))),
  .ret (.tup [.v 4, .call "_law_pattern" [.v 0, .v 1, .bop .sub (.v 2) (.k (.int 1))], .call "_law_pattern" [.v 0, .v 1, .bop .sub (.v 2) (.k (.int 1))]])]⟩
def c__law_matches : Fn := ⟨2, 4, [.asg (.nm 2) (.idx (.v 0) (.k (.int 0))),
  .ite (.cmp .isin (.v 2) (.tup [.k (.str ['n', 'o', 'n', 'e']), .k (.str ['e', 'm', 'p', 't', 'y']), .k (.str ['a', 'n', 'y'])])) [.ret (.or (.and (.cmp .eq (.v 2) (.k (.str ['e', 'm', 'p', 't', 'y']))) (.cmp .eq (.v 1) (.k (.str [])))) (.and (.cmp .eq (.v 2) (.k (.str ['a', 'n', 'y']))) (.cmp .eq (.blt "len" [.v 1]) (.k (.int 1)))))] [],
  .ite (.cmp .eq (.v 2) (.k (.str ['l', 'e', 't', 't', 'e', 'r']))) [.ret (.cmp .eq (.v 1) (.idx (.v 0) (.k (.int 1))))] [],
  .ite (.cmp .isin (.v 2) (.tup [.k (.str ['o', 'r']), .k (.str ['a', 'n', 'd'])])) [.par [4, 5] [.call "_law_matches" [.idx (.v 0) (.k (.int 1)), .v 1], .call "_law_matches" [.idx (.v 0) (.k (.int 2)), .v 1]],
  .ret (.ite (.cmp .eq (.v 2) (.k (.str ['o', 'r']))) (.or (.v 4) (.v 5)) (.and (.v 4) (.v 5)))] [],
  .ite (.cmp .eq (.v 2) (.k (.str ['n', 'o', 't']))) [.ret (.nt (.call "_law_matches" [.idx (.v 0) (.k (.int 1)), .v 1]))] [],
  .ite (.cmp .eq (.v 2) (.k (.str ['j', 'o', 'i', 'n']))) [.for_ (.nm 3) .rng [.bop .add (.blt "len" [.v 1]) (.k (.int 1))] [.ite (.and (.call "_law_matches" [.idx (.v 0) (.k (.int 1)), .slc (.v 1) none (some (.v 3))]) (.call "_law_matches" [.idx (.v 0) (.k (.int 2)), .slc (.v 1) (some (.v 3)) none])) [.ret (.k (.bl true))] []],
  .ret (.k (.bl false))] [],
  .for_ (.nm 3) .rng2 [.k (.int 1), .bop .add (.blt "len" [.v 1]) (.k (.int 1))] [.ite (.and (.call "_law_matches" [.idx (.v 0) (.k (.int 1)), .slc (.v 1) none (some (.v 3))]) (.call "_law_matches" [.v 0, .slc (.v 1) (some (.v 3)) none])) [.ret (.k (.bl true))] []],
  .ret (.cmp .eq (.v 1) (.k (.str [])))]⟩
def c__law_word : Fn := ⟨1, 2, [.asg (.nm 1) (.k .non),
  .tryA [.ex (.wk (.v 0))] ["AskError", "BadLetters", "BadText", "BadPattern"] 2 [.asg (.nm 1) (.v 2)],
  .ite (.cmp .is (.v 1) (.k .non)) [.ret (.k .non)] [],
  .ret (.ite (.isi (.v 1) ["BadPattern"]) (.k (.str ['p', 'a', 't', 't', 'e', 'r', 'n'])) (.ite (.isi (.v 1) ["BadText"]) (.k (.str ['t', 'e', 'x', 't'])) (.k (.str ['o', 't', 'h', 'e', 'r']))))]⟩
def c_law : Fn := ⟨1, 9, [.for_ (.tup [.nm 1, .nm 2]) .enumv [.slc (.or (.v 0) (.lst [.k (.int 5)])) none (some (.k (.int 5)))] [.asg (.nm 3) (.call "_law_begin" [.v 2, .v 1]),
  .asg (.nm 4) (.call "_law_pick" [.v 3, .lst [.k (.str ['a']), .k (.str ['c']), .k (.str ['a', 'b']), .k (.str ['b', 'd']), .k (.str ['a', 'b', 'c']), .k (.str ['a', 'c', 'd'])]]),
  .for_ (.nm 5) .rng [.k (.int 3)] [.asg (.nm 8) (.call "_law_pattern" [.v 3, .v 4, .bop .add (.k (.int 1)) (.call "_law_draw" [.v 3, .k (.int 5)])]),
  .for_ (.nm 9) .val [.call "_law_texts" [.v 4, .ite (.cmp .eq (.blt "len" [.v 4]) (.k (.int 3))) (.k (.int 4)) (.k (.int 5))]] [.ite (.cmp .ne (.blt "repr" [.call "matches" [.v 4, .v 8, .v 9]]) (.blt "repr" [.call "_law_matches" [.v 8, .v 9]])) [.ret (.k (.bl false))] []]],
  .asg (.nm 6) (.lst [.k .non, .k (.int 5), .k (.str []), .k (.str ['a']), .tup [], .tup [.k (.str ['s', 't', 'a', 'r'])], .lst [.k (.str ['a', 'n', 'y'])], .tup [.k (.str ['l', 'e', 't', 't', 'e', 'r']), .k (.str ['x'])], .tup [.k (.str ['l', 'e', 't', 't', 'e', 'r']), .k (.str [])], .dct [] [], .tup [.k (.str ['a', 'n', 'y']), .k (.int 1)]]),
  .asg (.nm 7) (.call "_law_pick" [.v 3, .v 6]),
  .ite (.cmp .ne (.lam "_law_word" (.call "matches" [.v 4, .v 7, .k .non])) (.k (.str ['p', 'a', 't', 't', 'e', 'r', 'n']))) [.ret (.k (.bl false))] [],
  .asg (.nm 7) (.call "_law_pick" [.v 3, .lst [.k .non, .k (.int 5), .k (.str ['x']), .bop .add (.v 4) (.k (.str ['A'])), .lst [.k (.str ['a'])], .tup [.k (.str ['a'])], .k (.bl true), .bop .add (.v 4) (.k (.str [' ']))]]),
  .ite (.cmp .ne (.lam "_law_word" (.callk "matches" [2, 1, 0] [.v 7, .v 8, .v 4])) (.k (.str ['t', 'e', 'x', 't']))) [.ret (.k (.bl false))] []],
  .ret (.k (.bl true))]⟩
def tab : FN → Option Fn
  | .f "is_alphabet" => some c_is_alphabet
  | .f "need_letters" => some c_need_letters
  | .f "is_text" => some c_is_text
  | .f "is_node" => some c_is_node
  | .f "inner_parts" => some c_inner_parts
  | .f "is_pattern" => some c_is_pattern
  | .f "need_pattern" => some c_need_pattern
  | .m "Matcher" "__init__" => some c_Matcher____init__
  | .m "Matcher" "ends" => some c_Matcher__ends
  | .m "Matcher" "ends_of" => some c_Matcher__ends_of
  | .m "Matcher" "ends_of_star" => some c_Matcher__ends_of_star
  | .f "matches" => some c_matches
  | .f "_law_begin" => some c__law_begin
  | .f "_law_draw" => some c__law_draw
  | .f "_law_pick" => some c__law_pick
  | .f "_law_texts" => some c__law_texts
  | .f "_law_pattern" => some c__law_pattern
  | .f "_law_matches" => some c__law_matches
  | .f "_law_word" => some c__law_word
  | .f "law" => some c_law
  | _ => none
/-! ### the text by places -/
def top (i : Nat) : Stmt := PySem.Challenge.pw_smallasks_k14_matches_by_splitting.main.body.getD i (.Pass ⟨0, 0, 0, 0⟩)
abbrev st_is_alphabet : Stmt := top 7
abbrev st_need_letters : Stmt := top 8
abbrev st_is_text : Stmt := top 9
abbrev st_is_node : Stmt := top 15
abbrev st_inner_parts : Stmt := top 16
abbrev st_is_pattern : Stmt := top 17
abbrev st_need_pattern : Stmt := top 18
abbrev st_Matcher____init__ : Stmt := inCls (top 19) 0
abbrev st_Matcher__ends : Stmt := inCls (top 19) 1
abbrev st_Matcher__ends_of : Stmt := inCls (top 19) 2
abbrev st_Matcher__ends_of_star : Stmt := inCls (top 19) 3
abbrev st_matches : Stmt := top 20
abbrev st__law_begin : Stmt := top 22
abbrev st__law_draw : Stmt := top 23
abbrev st__law_pick : Stmt := top 24
abbrev st__law_texts : Stmt := top 25
abbrev st__law_pattern : Stmt := top 26
abbrev st__law_matches : Stmt := top 27
abbrev st__law_word : Stmt := top 28
abbrev st_law : Stmt := top 29
abbrev defN : List String := ["is_alphabet", "need_letters", "is_text", "is_node", "inner_parts", "is_pattern", "need_pattern", "matches", "_law_begin", "_law_draw", "_law_pick", "_law_texts", "_law_pattern", "_law_matches", "law"]
abbrev excN : List String := ["BadLetters", "BadPattern", "BadText"]
abbrev insN : List String := ["Matcher"]
/-- the classes -/
abbrev mkN : List String := ["law"]
abbrev CT (w : World) (K : PySem.W.Frag) (gh : List GF) : Cts := CTm insN excN K [(pOf K (gaS K "law"), (SO "law" ++ SO ".<locals>.") ++ SO "<lambda>")] gh (NestedKey.hash w)
structure Tx (w : World) (K : PySem.W.Frag) (mg : Str → Option Value) (gh : List GF) : Prop where
  g_is_alphabet : mg "is_alphabet" = some (.ref (He.ga K (SO "is_alphabet")))
  k_is_alphabet : PySem.W.keepIn K (.ref (He.ga K (SO "is_alphabet"))) = true
  g_need_letters : mg "need_letters" = some (.ref (He.ga K (SO "need_letters")))
  k_need_letters : PySem.W.keepIn K (.ref (He.ga K (SO "need_letters"))) = true
  g_is_text : mg "is_text" = some (.ref (He.ga K (SO "is_text")))
  k_is_text : PySem.W.keepIn K (.ref (He.ga K (SO "is_text"))) = true
  g_is_node : mg "is_node" = some (.ref (He.ga K (SO "is_node")))
  k_is_node : PySem.W.keepIn K (.ref (He.ga K (SO "is_node"))) = true
  g_inner_parts : mg "inner_parts" = some (.ref (He.ga K (SO "inner_parts")))
  k_inner_parts : PySem.W.keepIn K (.ref (He.ga K (SO "inner_parts"))) = true
  g_is_pattern : mg "is_pattern" = some (.ref (He.ga K (SO "is_pattern")))
  k_is_pattern : PySem.W.keepIn K (.ref (He.ga K (SO "is_pattern"))) = true
  g_need_pattern : mg "need_pattern" = some (.ref (He.ga K (SO "need_pattern")))
  k_need_pattern : PySem.W.keepIn K (.ref (He.ga K (SO "need_pattern"))) = true
  mt_Matcher____init__ : Meth K (gaS K "Matcher") (Str.ofString "__init__") (He.ma K (gaS K "Matcher") (SO "__init__"))
  mt_Matcher__ends : Meth K (gaS K "Matcher") (Str.ofString "ends") (He.ma K (gaS K "Matcher") (SO "ends"))
  mt_Matcher__ends_of : Meth K (gaS K "Matcher") (Str.ofString "ends_of") (He.ma K (gaS K "Matcher") (SO "ends_of"))
  mt_Matcher__ends_of_star : Meth K (gaS K "Matcher") (Str.ofString "ends_of_star") (He.ma K (gaS K "Matcher") (SO "ends_of_star"))
  g_matches : mg "matches" = some (.ref (He.ga K (SO "matches")))
  k_matches : PySem.W.keepIn K (.ref (He.ga K (SO "matches"))) = true
  g__law_begin : mg "_law_begin" = some (.ref (He.ga K (SO "_law_begin")))
  k__law_begin : PySem.W.keepIn K (.ref (He.ga K (SO "_law_begin"))) = true
  g__law_draw : mg "_law_draw" = some (.ref (He.ga K (SO "_law_draw")))
  k__law_draw : PySem.W.keepIn K (.ref (He.ga K (SO "_law_draw"))) = true
  g__law_pick : mg "_law_pick" = some (.ref (He.ga K (SO "_law_pick")))
  k__law_pick : PySem.W.keepIn K (.ref (He.ga K (SO "_law_pick"))) = true
  g__law_texts : mg "_law_texts" = some (.ref (He.ga K (SO "_law_texts")))
  k__law_texts : PySem.W.keepIn K (.ref (He.ga K (SO "_law_texts"))) = true
  g__law_pattern : mg "_law_pattern" = some (.ref (He.ga K (SO "_law_pattern")))
  k__law_pattern : PySem.W.keepIn K (.ref (He.ga K (SO "_law_pattern"))) = true
  g__law_matches : mg "_law_matches" = some (.ref (He.ga K (SO "_law_matches")))
  k__law_matches : PySem.W.keepIn K (.ref (He.ga K (SO "_law_matches"))) = true
  g__law_word : mg "_law_word" = some (.ref (He.ga K (SO "_law_word")))
  k__law_word : PySem.W.keepIn K (.ref (He.ga K (SO "_law_word"))) = true
  g_law : mg "law" = some (.ref (He.ga K (SO "law")))
  k_law : PySem.W.keepIn K (.ref (He.ga K (SO "law"))) = true
  n_all : mg "all" = none
  n_enumerate : mg "enumerate" = none
  n_int : mg "int" = none
  n_isinstance : mg "isinstance" = none
  n_len : mg "len" = none
  n_list : mg "list" = none
  n_max : mg "max" = none
  n_range : mg "range" = none
  n_repr : mg "repr" = none
  n_set : mg "set" = none
  n_sorted : mg "sorted" = none
  n_str : mg "str" = none
  n_tuple : mg "tuple" = none
  i_ALL_LETTERS : ∃ t, mg "ALL_LETTERS" = some (.str "abcd" t)
  i_MOST_DEEP : ∃ t, mg "MOST_DEEP" = some (.int 15 t)
  i_MOST_PARTS : ∃ t, mg "MOST_PARTS" = some (.int 60 t)
  x_AskError : mg "AskError" = some (.ref (gaS K "AskError"))
  x_BadLetters : mg "BadLetters" = some (.ref (gaS K "BadLetters"))
  x_BadPattern : mg "BadPattern" = some (.ref (gaS K "BadPattern"))
  x_BadText : mg "BadText" = some (.ref (gaS K "BadText"))
  x_Matcher : mg "Matcher" = some (.ref (gaS K "Matcher"))
  x_SIMPLE : mg "SIMPLE" = some (.ref (gaS K "SIMPLE"))
  x_SIZES : mg "SIZES" = some (.ref (gaS K "SIZES"))
  t_SIMPLE : kvB K 50 (.tup [.str ['n', 'o', 'n', 'e'], .str ['e', 'm', 'p', 't', 'y'], .str ['l', 'e', 't', 't', 'e', 'r'], .str ['a', 'n', 'y']]) (.ref (gaS K "SIMPLE")) = true
  d_SIZES : GDi K w (gaS K "SIZES") kv_SIZES
  c_BadLetters : (CT w K gh).exc "BadLetters" (gaS K "BadLetters")
  e_BadLetters : PySem.W.excIn K (gaS K "BadLetters") He.veBase "ValueError.__new__" = true ∧ PySem.W.keepIn K (.ref (gaS K "BadLetters")) = true ∧ PySem.W.subIn K (.ref (gaS K "BadLetters")) (.type "BaseException") = some true ∧ PySem.W.typeIn K (.ref (gaS K "BadLetters")) = some (.type "type")
  c_BadPattern : (CT w K gh).exc "BadPattern" (gaS K "BadPattern")
  e_BadPattern : PySem.W.excIn K (gaS K "BadPattern") He.veBase "ValueError.__new__" = true ∧ PySem.W.keepIn K (.ref (gaS K "BadPattern")) = true ∧ PySem.W.subIn K (.ref (gaS K "BadPattern")) (.type "BaseException") = some true ∧ PySem.W.typeIn K (.ref (gaS K "BadPattern")) = some (.type "type")
  c_BadText : (CT w K gh).exc "BadText" (gaS K "BadText")
  e_BadText : PySem.W.excIn K (gaS K "BadText") He.veBase "ValueError.__new__" = true ∧ PySem.W.keepIn K (.ref (gaS K "BadText")) = true ∧ PySem.W.subIn K (.ref (gaS K "BadText")) (.type "BaseException") = some true ∧ PySem.W.typeIn K (.ref (gaS K "BadText")) = some (.type "type")
  m_AskError : ∀ c C, (CT w K gh).exc c C → PySem.W.exmOne K (.ref C) (.ref (gaS K "AskError")) = some (decide (c ∈ ["AskError", "BadLetters", "BadText", "BadPattern"]))
  ty_BadPattern : TyT K (CT w K gh) (.ref (gaS K "BadPattern")) ["BadPattern"]
  ty_BadText : TyT K (CT w K gh) (.ref (gaS K "BadText")) ["BadText"]
  ty_str : TyT K (CT w K gh) (.type "str") ["str"]
  ty_tuple : TyT K (CT w K gh) (.type "tuple") ["tuple"]
  hE : ∀ c C, (CT w K gh).exc c C → ExcC K C
  sys : SysD K
  cls_Matcher : Cls K (gaS K "Matcher")
  ic_Matcher : (CT w K gh).ins "Matcher" (gaS K "Matcher")
  mk_Matcher : Mk K (gaS K "Matcher") (He.ma K (gaS K "Matcher") (SO "__init__"))
  na_known : ∀ c C, (CT w K gh).ins c C → Cls K C ∧ NoAttr K C "known"
  na_text : ∀ c C, (CT w K gh).ins c C → Cls K C ∧ NoAttr K C "text"
  xf_known : ∀ c C, (CT w K gh).exc c C → XfC K C ∧ PySem.W.findIn K (.ref C) "known" = some none
  xf_text : ∀ c C, (CT w K gh).exc c C → XfC K C ∧ PySem.W.findIn K (.ref C) "text" = some none
  hI : ∀ c C, (CT w K gh).ins c C → InsT K C
  mkb_law : mkB K (gaS K "law") = true
  tnd : (mkN.map fun m => pOf K (gaS K m)).Nodup
section
variable {P : Program} {w : World} {K : PySem.W.Frag} {mg : Str → Option Value} {base : Heap} {n : Nat} {f : Addr} {fd : FuncData}
structure Cals (P : Program) (w : World) (K : PySem.W.Frag) (mg : Str → Option Value) (base : Heap) (n : Nat) (gh : List GF) : Prop where
  c : ∀ g : String, g ∈ defN → Mi.Cal P w K mg base (CT w K gh) (callN tab n) (4 * n + 2) (.f g) (gaS K g)
  m_Matcher____init__ : Mi.Cal P w K mg base (CT w K gh) (callN tab n) (4 * n + 2) (.m "Matcher" "__init__") (He.ma K (gaS K "Matcher") (SO "__init__"))
  m_Matcher__ends : Mi.Cal P w K mg base (CT w K gh) (callN tab n) (4 * n + 2) (.m "Matcher" "ends") (He.ma K (gaS K "Matcher") (SO "ends"))
  m_Matcher__ends_of : Mi.Cal P w K mg base (CT w K gh) (callN tab n) (4 * n + 2) (.m "Matcher" "ends_of") (He.ma K (gaS K "Matcher") (SO "ends_of"))
  m_Matcher__ends_of_star : Mi.Cal P w K mg base (CT w K gh) (callN tab n) (4 * n + 2) (.m "Matcher" "ends_of_star") (He.ma K (gaS K "Matcher") (SO "ends_of_star"))
  k0 : Mi.KCal P w K mg base (CT w K gh) (callN tab n) (4 * n + 2) (.f "matches") (gaS K "matches") ["text", "pattern", "letters"] [2, 1, 0]
  t__law_word : ∀ y, Mi.LCal P w K mg base ((CT w K gh).push y) (callN tab n) (4 * n + 5) "_law_word" (SO "_law_word") st__law_word (gaS K "_law_word") ["_law_work", "_law_caught", "error"] "_law_work"
theorem sc_is_alphabet : FnScope ["value", "letter"] ["value"] (defScope st_is_alphabet) := ⟨rfl, rfl, rfl, by decide +kernel, rfl, by decide +kernel, by decide +kernel⟩
theorem f_is_alphabet {gh : List GF} (TA : ∀ gh, Tx w K mg gh) (CA : ∀ gh, Cals P w K mg base n gh) (TB : ∀ m : String, m ∈ mkN → LamX.TabB base mg (cOf K (gaS K m)) (pOf K (gaS K m))) (F : Fun K "is_alphabet" "is_alphabet" st_is_alphabet f fd) : FnG P w K mg base (4 * n + 2 + 1 + 1 + 1 + 1) f fd ["value"] (spB K (CT w K gh) (callN tab n) c_is_alphabet) :=
  fnG_run F sc_is_alphabet rfl rfl (callN_gro tab n) fun cdv A out s H E W hrL hg tk hp =>
  have hcl := callN_gro tab n; have hr0 := hrL.mono (Nat.le_trans (Nat.le_succ _) (Nat.le_succ _)); have hr := hr0.mono (Nat.le_succ _); have hu := u65 hr; have hu1 := u1 hr; have T := TA gh; have CK := CA gh; have hI := T.hI; have ND := sc_is_alphabet.nd; have C := CK.c
  (S_cons hcl (S_if hcl (I_tw (I_wor hcl (I_tnot hcl (I_tst hcl (I_isi hcl hI T.hE rfl T.n_isinstance rfl (I_var 0 rfl (vis_of rfl) rfl rfl) (I_ty (T := "str") rfl T.n_str rfl (by decide) rfl) (.ty _) T.ty_str rfl rfl rfl) fun _ => rfl)) (I_wor hcl (I_tcmp (o := .eq) rfl ⟨hu, rfl⟩ hcl (I_var 0 rfl (vis_of rfl) rfl rfl) (I_str (by decide +kernel)) rfl) (I_wor1 (I_tnot hcl (I_tst hcl (I_bltB hcl (call_all_b rfl) rfl T.n_all rfl (I_args hcl (I_lc (own := [(SO "letter", 1)]) rfl hcl rfl ND (P_val hcl (I_var 0 rfl (vis_of rfl) rfl rfl)) (blkOk_by rfl) (fun _ _ _ _ _ => (G_nm ND rfl (loc_of rfl) (fn_of rfl) (by decide))) (fun _ _ _ _ _ => T_nil) (fun _ _ _ _ _ => (I_cmp (o := .isin) rfl ⟨hu, rfl⟩ hcl (I_var 1 rfl (vis_of rfl) rfl rfl) (I_gstrE (by decide +kernel) rfl T.i_ALL_LETTERS rfl) rfl)) (fun _ => rfl)) I_args0 rfl) (by decide) rfl rfl rfl) fun _ => rfl)))))) (S_cons hcl (S_ret hcl I_bl)
  S_nil) S_nil)
  (S_cons hcl (S_ret hcl (I_cmp (o := .eq) rfl ⟨hu, rfl⟩ hcl (I_bltT hcl (call_list_b rfl) rfl T.n_list rfl (I_args hcl (I_var 0 rfl (vis_of rfl) rfl rfl) I_args0 rfl) (by decide) rfl rfl rfl) (I_ssetX hcl rfl rfl T.n_sorted rfl T.n_set (I_var 0 rfl (vis_of rfl) rfl rfl) rfl rfl rfl rfl rfl rfl) rfl))
  S_nil))
theorem sc_need_letters : FnScope ["value"] ["value"] (defScope st_need_letters) := ⟨rfl, rfl, rfl, by decide +kernel, rfl, by decide +kernel, by decide +kernel⟩
theorem f_need_letters {gh : List GF} (TA : ∀ gh, Tx w K mg gh) (CA : ∀ gh, Cals P w K mg base n gh) (TB : ∀ m : String, m ∈ mkN → LamX.TabB base mg (cOf K (gaS K m)) (pOf K (gaS K m))) (F : Fun K "need_letters" "need_letters" st_need_letters f fd) : FnG P w K mg base (4 * n + 2 + 1 + 1 + 1 + 1) f fd ["value"] (spB K (CT w K gh) (callN tab n) c_need_letters) :=
  fnG_run F sc_need_letters rfl rfl (callN_gro tab n) fun cdv A out s H E W hrL hg tk hp =>
  have hcl := callN_gro tab n; have hr0 := hrL.mono (Nat.le_trans (Nat.le_succ _) (Nat.le_succ _)); have hr := hr0.mono (Nat.le_succ _); have hu := u65 hr; have hu1 := u1 hr; have T := TA gh; have CK := CA gh; have hI := T.hI; have ND := sc_need_letters.nd; have C := CK.c
  (S_cons hcl (S_if hcl (I_tnot hcl (I_tst hcl (I_call hcl (C "is_alphabet" (by decide)) hr hg tk rfl T.g_is_alphabet T.k_is_alphabet (I_args hcl (I_var 0 rfl (vis_of rfl) rfl rfl) I_args0 rfl) rfl rfl rfl) fun _ => rfl)) (S_cons hcl (S_raise (n := "BadLetters") hcl rfl tk T.c_BadLetters PySem.F.excBase_ValueError T.e_BadLetters.1 T.x_BadLetters T.e_BadLetters.2.1 (raises_own T.e_BadLetters.2.2.1 T.e_BadLetters.2.2.2) rfl (I_args hcl (I_str (by decide +kernel)) I_args0 rfl) rfl rfl rfl)
  S_nil) S_nil)
  S_nil)
theorem sc_is_text : FnScope ["letters", "value", "letter"] ["letters", "value"] (defScope st_is_text) := ⟨rfl, rfl, rfl, by decide +kernel, rfl, by decide +kernel, by decide +kernel⟩
theorem f_is_text {gh : List GF} (TA : ∀ gh, Tx w K mg gh) (CA : ∀ gh, Cals P w K mg base n gh) (TB : ∀ m : String, m ∈ mkN → LamX.TabB base mg (cOf K (gaS K m)) (pOf K (gaS K m))) (F : Fun K "is_text" "is_text" st_is_text f fd) : FnG P w K mg base (4 * n + 2 + 1 + 1 + 1 + 1) f fd ["letters", "value"] (spB K (CT w K gh) (callN tab n) c_is_text) :=
  fnG_run F sc_is_text rfl rfl (callN_gro tab n) fun cdv A out s H E W hrL hg tk hp =>
  have hcl := callN_gro tab n; have hr0 := hrL.mono (Nat.le_trans (Nat.le_succ _) (Nat.le_succ _)); have hr := hr0.mono (Nat.le_succ _); have hu := u65 hr; have hu1 := u1 hr; have T := TA gh; have CK := CA gh; have hI := T.hI; have ND := sc_is_text.nd; have C := CK.c
  (S_cons hcl (S_ex hcl (I_call hcl (C "need_letters" (by decide)) hr hg tk rfl T.g_need_letters T.k_need_letters (I_args hcl (I_var 0 rfl (vis_of rfl) rfl rfl) I_args0 rfl) rfl rfl rfl) rfl)
  (S_cons hcl (S_ret hcl (I_and hcl (I_isi hcl hI T.hE rfl T.n_isinstance rfl (I_var 1 rfl (vis_of rfl) rfl rfl) (I_ty (T := "str") rfl T.n_str rfl (by decide) rfl) (.ty _) T.ty_str rfl rfl rfl) (I_one (I_bltB hcl (call_all_b rfl) rfl T.n_all rfl (I_args hcl (I_lc (own := [(SO "letter", 2)]) rfl hcl rfl ND (P_val hcl (I_var 1 rfl (vis_of rfl) rfl rfl)) (blkOk_by rfl) (fun _ _ _ _ _ => (G_nm ND rfl (loc_of rfl) (fn_of rfl) (by decide))) (fun _ _ _ _ _ => T_nil) (fun _ _ _ _ _ => (I_cmp (o := .isin) rfl ⟨hu, rfl⟩ hcl (I_var 2 rfl (vis_of rfl) rfl rfl) (I_var 0 rfl (vis_of rfl) rfl rfl) rfl)) (fun _ => rfl)) I_args0 rfl) (by decide) rfl rfl rfl))))
  S_nil))
theorem sc_is_node : FnScope ["letters", "value"] ["letters", "value"] (defScope st_is_node) := ⟨rfl, rfl, rfl, by decide +kernel, rfl, by decide +kernel, by decide +kernel⟩
theorem f_is_node {gh : List GF} (TA : ∀ gh, Tx w K mg gh) (CA : ∀ gh, Cals P w K mg base n gh) (TB : ∀ m : String, m ∈ mkN → LamX.TabB base mg (cOf K (gaS K m)) (pOf K (gaS K m))) (F : Fun K "is_node" "is_node" st_is_node f fd) : FnG P w K mg base (4 * n + 2 + 1 + 1 + 1 + 1) f fd ["letters", "value"] (spB K (CT w K gh) (callN tab n) c_is_node) :=
  fnG_run F sc_is_node rfl rfl (callN_gro tab n) fun cdv A out s H E W hrL hg tk hp =>
  have hcl := callN_gro tab n; have hr0 := hrL.mono (Nat.le_trans (Nat.le_succ _) (Nat.le_succ _)); have hr := hr0.mono (Nat.le_succ _); have hu := u65 hr; have hu1 := u1 hr; have T := TA gh; have CK := CA gh; have hI := T.hI; have ND := sc_is_node.nd; have C := CK.c
  (S_cons hcl (S_if hcl (I_tw (I_wor hcl (I_tnot hcl (I_tst hcl (I_isi hcl hI T.hE rfl T.n_isinstance rfl (I_var 1 rfl (vis_of rfl) rfl rfl) (I_ty (T := "tuple") rfl T.n_tuple rfl (by decide) rfl) (.ty _) T.ty_tuple rfl rfl rfl) fun _ => rfl)) (I_wor hcl (I_tcmp (o := .eq) rfl ⟨hu, rfl⟩ hcl (I_bltB hcl call_len_b rfl T.n_len rfl (I_args hcl (I_var 1 rfl (vis_of rfl) rfl rfl) I_args0 rfl) (by decide) rfl rfl rfl) I_int rfl) (I_wor hcl (I_tnot hcl (I_tst hcl (I_isi hcl hI T.hE rfl T.n_isinstance rfl (I_idx ⟨hu, rfl⟩ hcl (I_var 1 rfl (vis_of rfl) rfl rfl) I_int fun _ _ => rfl) (I_ty (T := "str") rfl T.n_str rfl (by decide) rfl) (.ty _) T.ty_str rfl rfl rfl) fun _ => rfl)) (I_wor1 (I_tgnin hcl T.d_SIZES (I_idx ⟨hu, rfl⟩ hcl (I_var 1 rfl (vis_of rfl) rfl rfl) I_int fun _ _ => rfl) rfl T.x_SIZES rfl)))))) (S_cons hcl (S_ret hcl I_bl)
  S_nil) S_nil)
  (S_cons hcl (S_if hcl (I_tcmp (o := .ne) rfl ⟨hu, rfl⟩ hcl (I_bltB hcl call_len_b rfl T.n_len rfl (I_args hcl (I_var 1 rfl (vis_of rfl) rfl rfl) I_args0 rfl) (by decide) rfl rfl rfl) (I_gget hcl T.d_SIZES (I_idx ⟨hu, rfl⟩ hcl (I_var 1 rfl (vis_of rfl) rfl rfl) I_int fun _ _ => rfl) rfl T.x_SIZES rfl fun _ _ => rfl) rfl) (S_cons hcl (S_ret hcl I_bl)
  S_nil) S_nil)
  (S_cons hcl (S_ret hcl (I_or hcl (I_cmp (o := .ne) rfl ⟨hu, rfl⟩ hcl (I_idx ⟨hu, rfl⟩ hcl (I_var 1 rfl (vis_of rfl) rfl rfl) I_int fun _ _ => rfl) (I_str (by decide +kernel)) rfl) (I_one (I_and hcl (I_isi hcl hI T.hE rfl T.n_isinstance rfl (I_idx ⟨hu, rfl⟩ hcl (I_var 1 rfl (vis_of rfl) rfl rfl) I_int fun _ _ => rfl) (I_ty (T := "str") rfl T.n_str rfl (by decide) rfl) (.ty _) T.ty_str rfl rfl rfl) (I_and hcl (I_cmp (o := .eq) rfl ⟨hu, rfl⟩ hcl (I_bltB hcl call_len_b rfl T.n_len rfl (I_args hcl (I_idx ⟨hu, rfl⟩ hcl (I_var 1 rfl (vis_of rfl) rfl rfl) I_int fun _ _ => rfl) I_args0 rfl) (by decide) rfl rfl rfl) I_int rfl) (I_one (I_cmp (o := .isin) rfl ⟨hu, rfl⟩ hcl (I_idx ⟨hu, rfl⟩ hcl (I_var 1 rfl (vis_of rfl) rfl rfl) I_int fun _ _ => rfl) (I_var 0 rfl (vis_of rfl) rfl rfl) rfl)))))))
  S_nil)))
theorem sc_inner_parts : FnScope ["pattern"] ["pattern"] (defScope st_inner_parts) := ⟨rfl, rfl, rfl, by decide +kernel, rfl, by decide +kernel, by decide +kernel⟩
theorem f_inner_parts {gh : List GF} (TA : ∀ gh, Tx w K mg gh) (CA : ∀ gh, Cals P w K mg base n gh) (TB : ∀ m : String, m ∈ mkN → LamX.TabB base mg (cOf K (gaS K m)) (pOf K (gaS K m))) (F : Fun K "inner_parts" "inner_parts" st_inner_parts f fd) : FnG P w K mg base (4 * n + 2 + 1 + 1 + 1 + 1) f fd ["pattern"] (spB K (CT w K gh) (callN tab n) c_inner_parts) :=
  fnG_run F sc_inner_parts rfl rfl (callN_gro tab n) fun cdv A out s H E W hrL hg tk hp =>
  have hcl := callN_gro tab n; have hr0 := hrL.mono (Nat.le_trans (Nat.le_succ _) (Nat.le_succ _)); have hr := hr0.mono (Nat.le_succ _); have hu := u65 hr; have hu1 := u1 hr; have T := TA gh; have CK := CA gh; have hI := T.hI; have ND := sc_inner_parts.nd; have C := CK.c
  (S_cons hcl (S_ret hcl (I_ite hcl (I_tcmp (o := .isin) rfl ⟨hu, rfl⟩ hcl (I_idx ⟨hu, rfl⟩ hcl (I_var 0 rfl (vis_of rfl) rfl rfl) I_int fun _ _ => rfl) (I_gk rfl T.x_SIMPLE T.t_SIMPLE rfl) rfl) (I_tup hcl I_args0) (I_slc hcl (I_var 0 rfl (vis_of rfl) rfl rfl) (I_part hcl I_int) I_part0)))
  S_nil)
theorem sc_is_pattern : FnScope ["letters", "value", "line", "parts", "one", "deep", "inner"] ["letters", "value"] (defScope st_is_pattern) := ⟨rfl, rfl, rfl, by decide +kernel, rfl, by decide +kernel, by decide +kernel⟩
theorem f_is_pattern {gh : List GF} (TA : ∀ gh, Tx w K mg gh) (CA : ∀ gh, Cals P w K mg base n gh) (TB : ∀ m : String, m ∈ mkN → LamX.TabB base mg (cOf K (gaS K m)) (pOf K (gaS K m))) (F : Fun K "is_pattern" "is_pattern" st_is_pattern f fd) : FnG P w K mg base (4 * n + 2 + 1 + 1 + 1 + 1) f fd ["letters", "value"] (spB K (CT w K gh) (callN tab n) c_is_pattern) :=
  fnG_run F sc_is_pattern rfl rfl (callN_gro tab n) fun cdv A out s H E W hrL hg tk hp =>
  have hcl := callN_gro tab n; have hr0 := hrL.mono (Nat.le_trans (Nat.le_succ _) (Nat.le_succ _)); have hr := hr0.mono (Nat.le_succ _); have hu := u65 hr; have hu1 := u1 hr; have T := TA gh; have CK := CA gh; have hI := T.hI; have ND := sc_is_pattern.nd; have C := CK.c
  (S_cons hcl (S_ex hcl (I_call hcl (C "need_letters" (by decide)) hr hg tk rfl T.g_need_letters T.k_need_letters (I_args hcl (I_var 0 rfl (vis_of rfl) rfl rfl) I_args0 rfl) rfl rfl rfl) rfl)
  (S_cons hcl (S_par (i := 2) (j := 3) hcl rfl ND rfl rfl (by decide) rfl rfl (I_args hcl (I_lst hcl (I_args hcl (I_tup hcl (I_args hcl (I_var 1 rfl (vis_of rfl) rfl rfl) (I_args hcl I_int I_args0 rfl) rfl)) I_args0 rfl)) (I_args hcl I_int I_args0 rfl) rfl) rfl rfl)
  (S_cons hcl (S_while hcl hp (I_tcmp (o := .ne) rfl ⟨hu, rfl⟩ hcl (I_var 2 rfl (vis_of rfl) rfl rfl) (I_lst hcl I_args0) rfl) (S_cons hcl (S_asg (vv := [4, 5]) hcl (I_mth0 hcl PySem.F.plainAttrs_list PySem.F.slot_list_pop PySem.F.type_list_pop mt_pop_b (tyM_list fun _ _ => rfl) (I_var 2 rfl (vis_of rfl) rfl rfl) rfl rfl) (G_tup rfl (Gs_cons (G_nm ND rfl (loc_of rfl) (fn_of rfl) (by decide)) (Gs_cons (G_nm ND rfl (loc_of rfl) (fn_of rfl) (by decide)) Gs_nil rfl) rfl) rfl rfl rfl) rfl rfl rfl)
  (S_cons hcl (S_aug (i := 3) (neg := false) rfl hcl ND rfl (loc_of rfl) I_int (fn_of rfl))
  (S_cons hcl (S_if hcl (I_tw (I_wor hcl (I_tcmp (o := .gt) rfl ⟨hu, rfl⟩ hcl (I_var 5 rfl (vis_of rfl) rfl rfl) (I_gintE rfl T.i_MOST_DEEP rfl) rfl) (I_wor hcl (I_tcmp (o := .gt) rfl ⟨hu, rfl⟩ hcl (I_var 3 rfl (vis_of rfl) rfl rfl) (I_gintE rfl T.i_MOST_PARTS rfl) rfl) (I_wor1 (I_tnot hcl (I_tst hcl (I_call hcl (C "is_node" (by decide)) hr hg tk rfl T.g_is_node T.k_is_node (I_args hcl (I_var 0 rfl (vis_of rfl) rfl rfl) (I_args hcl (I_var 4 rfl (vis_of rfl) rfl rfl) I_args0 rfl) rfl) rfl rfl rfl) fun _ => rfl)))))) (S_cons hcl (S_ret hcl I_bl)
  S_nil) S_nil)
  (S_cons hcl (S_ex hcl (I_mth hcl PySem.F.plainAttrs_list PySem.F.slot_list_extend PySem.F.type_list_extend mt_extend_b (tyM_list fun _ _ => rfl) (I_var 2 rfl (vis_of rfl) rfl rfl) (I_args hcl (I_lc (own := [(SO "inner", 6)]) rfl hcl rfl ND (P_val hcl (I_call hcl (C "inner_parts" (by decide)) hr hg tk rfl T.g_inner_parts T.k_inner_parts (I_args hcl (I_var 4 rfl (vis_of rfl) rfl rfl) I_args0 rfl) rfl rfl rfl)) (blkOk_by rfl) (fun _ _ _ _ _ => (G_nm ND rfl (loc_of rfl) (fn_of rfl) (by decide))) (fun _ _ _ _ _ => T_nil) (fun _ _ _ _ _ => (I_tup hcl (I_args hcl (I_var 6 rfl (vis_of rfl) rfl rfl) (I_args hcl (I_bop (o := .add) rfl hcl (I_var 5 rfl (vis_of rfl) rfl rfl) I_int) I_args0 rfl) rfl))) (fun _ => rfl)) I_args0 rfl) rfl rfl rfl rfl rfl) rfl)
  S_nil)))))
  (S_cons hcl (S_ret hcl I_bl)
  S_nil))))
theorem sc_need_pattern : FnScope ["letters", "value"] ["letters", "value"] (defScope st_need_pattern) := ⟨rfl, rfl, rfl, by decide +kernel, rfl, by decide +kernel, by decide +kernel⟩
theorem f_need_pattern {gh : List GF} (TA : ∀ gh, Tx w K mg gh) (CA : ∀ gh, Cals P w K mg base n gh) (TB : ∀ m : String, m ∈ mkN → LamX.TabB base mg (cOf K (gaS K m)) (pOf K (gaS K m))) (F : Fun K "need_pattern" "need_pattern" st_need_pattern f fd) : FnG P w K mg base (4 * n + 2 + 1 + 1 + 1 + 1) f fd ["letters", "value"] (spB K (CT w K gh) (callN tab n) c_need_pattern) :=
  fnG_run F sc_need_pattern rfl rfl (callN_gro tab n) fun cdv A out s H E W hrL hg tk hp =>
  have hcl := callN_gro tab n; have hr0 := hrL.mono (Nat.le_trans (Nat.le_succ _) (Nat.le_succ _)); have hr := hr0.mono (Nat.le_succ _); have hu := u65 hr; have hu1 := u1 hr; have T := TA gh; have CK := CA gh; have hI := T.hI; have ND := sc_need_pattern.nd; have C := CK.c
  (S_cons hcl (S_if hcl (I_tnot hcl (I_tst hcl (I_call hcl (C "is_pattern" (by decide)) hr hg tk rfl T.g_is_pattern T.k_is_pattern (I_args hcl (I_var 0 rfl (vis_of rfl) rfl rfl) (I_args hcl (I_var 1 rfl (vis_of rfl) rfl rfl) I_args0 rfl) rfl) rfl rfl rfl) fun _ => rfl)) (S_cons hcl (S_raise (n := "BadPattern") hcl rfl tk T.c_BadPattern PySem.F.excBase_ValueError T.e_BadPattern.1 T.x_BadPattern T.e_BadPattern.2.1 (raises_own T.e_BadPattern.2.2.1 T.e_BadPattern.2.2.2) rfl (I_args hcl (I_str (by decide +kernel)) I_args0 rfl) rfl rfl rfl)
  S_nil) S_nil)
  S_nil)
theorem sc_Matcher____init__ : FnScope ["self", "text"] ["self", "text"] (defScope st_Matcher____init__) := ⟨rfl, rfl, rfl, by decide +kernel, rfl, by decide +kernel, by decide +kernel⟩
theorem f_Matcher____init__ {gh : List GF} (TA : ∀ gh, Tx w K mg gh) (CA : ∀ gh, Cals P w K mg base n gh) (TB : ∀ m : String, m ∈ mkN → LamX.TabB base mg (cOf K (gaS K m)) (pOf K (gaS K m))) (F : Fun K "__init__" "Matcher.__init__" st_Matcher____init__ f fd) : FnG P w K mg base (4 * n + 2 + 1 + 1 + 1 + 1) f fd ["self", "text"] (spB K (CT w K gh) (callN tab n) c_Matcher____init__) :=
  fnG_run F sc_Matcher____init__ rfl rfl (callN_gro tab n) fun cdv A out s H E W hrL hg tk hp =>
  have hcl := callN_gro tab n; have hr0 := hrL.mono (Nat.le_trans (Nat.le_succ _) (Nat.le_succ _)); have hr := hr0.mono (Nat.le_succ _); have hu := u65 hr; have hu1 := u1 hr; have T := TA gh; have CK := CA gh; have hI := T.hI; have ND := sc_Matcher____init__.nd; have C := CK.c
  (S_cons hcl (S_setf rfl hcl T.na_text (I_var 0 rfl (vis_of rfl) rfl rfl) (I_var 1 rfl (vis_of rfl) rfl rfl) rfl)
  (S_cons hcl (S_setf rfl hcl T.na_known (I_var 0 rfl (vis_of rfl) rfl rfl) I_dct0 rfl)
  S_nil))
theorem sc_Matcher__ends : FnScope ["self", "pattern", "begin"] ["self", "pattern", "begin"] (defScope st_Matcher__ends) := ⟨rfl, rfl, rfl, by decide +kernel, rfl, by decide +kernel, by decide +kernel⟩
theorem f_Matcher__ends {gh : List GF} (TA : ∀ gh, Tx w K mg gh) (CA : ∀ gh, Cals P w K mg base n gh) (TB : ∀ m : String, m ∈ mkN → LamX.TabB base mg (cOf K (gaS K m)) (pOf K (gaS K m))) (F : Fun K "ends" "Matcher.ends" st_Matcher__ends f fd) : FnG P w K mg base (4 * n + 2 + 1 + 1 + 1 + 1) f fd ["self", "pattern", "begin"] (spB K (CT w K gh) (callN tab n) c_Matcher__ends) :=
  fnG_run F sc_Matcher__ends rfl rfl (callN_gro tab n) fun cdv A out s H E W hrL hg tk hp =>
  have hcl := callN_gro tab n; have hr0 := hrL.mono (Nat.le_trans (Nat.le_succ _) (Nat.le_succ _)); have hr := hr0.mono (Nat.le_succ _); have hu := u65 hr; have hu1 := u1 hr; have T := TA gh; have CK := CA gh; have hI := T.hI; have ND := sc_Matcher__ends.nd; have C := CK.c
  (S_cons hcl (S_if hcl (I_tcmp (o := .notin) rfl ⟨hu, rfl⟩ hcl (I_tup hcl (I_args hcl (I_var 1 rfl (vis_of rfl) rfl rfl) (I_args hcl (I_var 2 rfl (vis_of rfl) rfl rfl) I_args0 rfl) rfl)) (I_fld rfl hcl T.na_known T.xf_known (I_var 0 rfl (vis_of rfl) rfl rfl) rfl) rfl) (S_cons hcl (S_seti ⟨hu, rfl⟩ hcl (I_fld rfl hcl T.na_known T.xf_known (I_var 0 rfl (vis_of rfl) rfl rfl) rfl) (I_tup hcl (I_args hcl (I_var 1 rfl (vis_of rfl) rfl rfl) (I_args hcl (I_var 2 rfl (vis_of rfl) rfl rfl) I_args0 rfl) rfl)) (I_mto rfl hcl (mto_cons T.cls_Matcher T.mt_Matcher__ends_of CK.m_Matcher__ends_of mto_nil) hr hg tk (I_var 0 rfl (vis_of rfl) rfl rfl) (I_args hcl (I_var 1 rfl (vis_of rfl) rfl rfl) (I_args hcl (I_var 2 rfl (vis_of rfl) rfl rfl) I_args0 rfl) rfl) rfl rfl rfl) rfl rfl rfl fun _ => rfl)
  S_nil) S_nil)
  (S_cons hcl (S_ret hcl (I_idx ⟨hu, rfl⟩ hcl (I_fld rfl hcl T.na_known T.xf_known (I_var 0 rfl (vis_of rfl) rfl rfl) rfl) (I_tup hcl (I_args hcl (I_var 1 rfl (vis_of rfl) rfl rfl) (I_args hcl (I_var 2 rfl (vis_of rfl) rfl rfl) I_args0 rfl) rfl)) fun _ _ => rfl))
  S_nil))
theorem sc_Matcher__ends_of : FnScope ["self", "pattern", "begin", "one", "other", "kind", "last", "end", "middle"] ["self", "pattern", "begin"] (defScope st_Matcher__ends_of) := ⟨rfl, rfl, rfl, by decide +kernel, rfl, by decide +kernel, by decide +kernel⟩
theorem f_Matcher__ends_of {gh : List GF} (TA : ∀ gh, Tx w K mg gh) (CA : ∀ gh, Cals P w K mg base n gh) (TB : ∀ m : String, m ∈ mkN → LamX.TabB base mg (cOf K (gaS K m)) (pOf K (gaS K m))) (F : Fun K "ends_of" "Matcher.ends_of" st_Matcher__ends_of f fd) : FnG P w K mg base (4 * n + 2 + 1 + 1 + 1 + 1) f fd ["self", "pattern", "begin"] (spB K (CT w K gh) (callN tab n) c_Matcher__ends_of) :=
  fnG_run F sc_Matcher__ends_of rfl rfl (callN_gro tab n) fun cdv A out s H E W hrL hg tk hp =>
  have hcl := callN_gro tab n; have hr0 := hrL.mono (Nat.le_trans (Nat.le_succ _) (Nat.le_succ _)); have hr := hr0.mono (Nat.le_succ _); have hu := u65 hr; have hu1 := u1 hr; have T := TA gh; have CK := CA gh; have hI := T.hI; have ND := sc_Matcher__ends_of.nd; have C := CK.c
  (S_cons hcl (S_par (i := 5) (j := 6) hcl rfl ND rfl rfl (by decide) rfl rfl (I_args hcl (I_idx ⟨hu, rfl⟩ hcl (I_var 1 rfl (vis_of rfl) rfl rfl) I_int fun _ _ => rfl) (I_args hcl (I_bltB hcl call_len_b rfl T.n_len rfl (I_args hcl (I_fld rfl hcl T.na_text T.xf_text (I_var 0 rfl (vis_of rfl) rfl rfl) rfl) I_args0 rfl) (by decide) rfl rfl rfl) I_args0 rfl) rfl) rfl rfl)
  (S_cons hcl (S_if hcl (I_tcmp (o := .eq) rfl ⟨hu, rfl⟩ hcl (I_var 5 rfl (vis_of rfl) rfl rfl) (I_str (by decide +kernel)) rfl) (S_cons hcl (S_ret hcl (I_lst hcl I_args0))
  S_nil) S_nil)
  (S_cons hcl (S_if hcl (I_tcmp (o := .eq) rfl ⟨hu, rfl⟩ hcl (I_var 5 rfl (vis_of rfl) rfl rfl) (I_str (by decide +kernel)) rfl) (S_cons hcl (S_ret hcl (I_lst hcl (I_args hcl (I_var 2 rfl (vis_of rfl) rfl rfl) I_args0 rfl)))
  S_nil) S_nil)
  (S_cons hcl (S_if hcl (I_tcmp (o := .isin) rfl ⟨hu, rfl⟩ hcl (I_var 5 rfl (vis_of rfl) rfl rfl) (I_tup hcl (I_args hcl (I_str (by decide +kernel)) (I_args hcl (I_str (by decide +kernel)) I_args0 rfl) rfl)) rfl) (S_cons hcl (S_ret hcl (I_ite hcl (I_tw (I_wand hcl (I_tcmp (o := .lt) rfl ⟨hu, rfl⟩ hcl (I_var 2 rfl (vis_of rfl) rfl rfl) (I_var 6 rfl (vis_of rfl) rfl rfl) rfl) (I_wand1 (I_tw (I_wor hcl (I_tcmp (o := .eq) rfl ⟨hu, rfl⟩ hcl (I_var 5 rfl (vis_of rfl) rfl rfl) (I_str (by decide +kernel)) rfl) (I_wor1 (I_tcmp (o := .eq) rfl ⟨hu, rfl⟩ hcl (I_idx ⟨hu, rfl⟩ hcl (I_fld rfl hcl T.na_text T.xf_text (I_var 0 rfl (vis_of rfl) rfl rfl) rfl) (I_var 2 rfl (vis_of rfl) rfl rfl) fun _ _ => rfl) (I_idx ⟨hu, rfl⟩ hcl (I_var 1 rfl (vis_of rfl) rfl rfl) I_int fun _ _ => rfl) rfl))))))) (I_lst hcl (I_args hcl (I_bop (o := .add) rfl hcl (I_var 2 rfl (vis_of rfl) rfl rfl) I_int) I_args0 rfl)) (I_lst hcl I_args0)))
  S_nil) S_nil)
  (S_cons hcl (S_set (i := 3) hcl ND rfl (loc_of rfl) (I_ite hcl (I_tcmp (o := .ne) rfl ⟨hu, rfl⟩ hcl (I_var 5 rfl (vis_of rfl) rfl rfl) (I_str (by decide +kernel)) rfl) (I_mto rfl hcl (mto_cons T.cls_Matcher T.mt_Matcher__ends CK.m_Matcher__ends mto_nil) hr hg tk (I_var 0 rfl (vis_of rfl) rfl rfl) (I_args hcl (I_idx ⟨hu, rfl⟩ hcl (I_var 1 rfl (vis_of rfl) rfl rfl) I_int fun _ _ => rfl) (I_args hcl (I_var 2 rfl (vis_of rfl) rfl rfl) I_args0 rfl) rfl) rfl rfl rfl) (I_lst hcl I_args0)) rfl (fn_of rfl))
  (S_cons hcl (S_if hcl (I_tcmp (o := .eq) rfl ⟨hu, rfl⟩ hcl (I_var 5 rfl (vis_of rfl) rfl rfl) (I_str (by decide +kernel)) rfl) (S_cons hcl (S_ret hcl (I_lc (own := [(SO "end", 7)]) rfl hcl rfl ND (P_rng2 hcl rfl T.n_range (I_args hcl (I_var 2 rfl (vis_of rfl) rfl rfl) (I_args hcl (I_bop (o := .add) rfl hcl (I_var 6 rfl (vis_of rfl) rfl rfl) I_int) I_args0 rfl) rfl) rfl rfl) (blkOk_by rfl) (fun _ _ _ _ _ => (G_nm ND rfl (loc_of rfl) (fn_of rfl) (by decide))) (fun _ _ _ _ _ => (T_one (I_tcmp (o := .notin) rfl ⟨hu, rfl⟩ hcl (I_var 7 rfl (vis_of rfl) rfl rfl) (I_var 3 rfl (vis_of rfl) rfl rfl) rfl))) (fun _ _ _ _ _ => (I_var 7 rfl (vis_of rfl) rfl rfl)) (fun _ => rfl)))
  S_nil) S_nil)
  (S_cons hcl (S_if hcl (I_tcmp (o := .eq) rfl ⟨hu, rfl⟩ hcl (I_var 5 rfl (vis_of rfl) rfl rfl) (I_str (by decide +kernel)) rfl) (S_cons hcl (S_ret hcl (I_mto rfl hcl (mto_cons T.cls_Matcher T.mt_Matcher__ends_of_star CK.m_Matcher__ends_of_star mto_nil) hr hg tk (I_var 0 rfl (vis_of rfl) rfl rfl) (I_args hcl (I_idx ⟨hu, rfl⟩ hcl (I_var 1 rfl (vis_of rfl) rfl rfl) I_int fun _ _ => rfl) (I_args hcl (I_var 2 rfl (vis_of rfl) rfl rfl) I_args0 rfl) rfl) rfl rfl rfl))
  S_nil) S_nil)
  (S_cons hcl (S_if hcl (I_tcmp (o := .eq) rfl ⟨hu, rfl⟩ hcl (I_var 5 rfl (vis_of rfl) rfl rfl) (I_str (by decide +kernel)) rfl) (S_cons hcl (S_ret hcl (I_ssc2 (own := [(SO "middle", 8), (SO "end", 7)]) rfl (by decide) hcl rfl ND (P_val hcl (I_var 3 rfl (vis_of rfl) rfl rfl)) (blkOk_by rfl) (fun _ _ _ _ _ => (G_nm ND rfl (loc_of rfl) (fn_of rfl) (by decide))) (fun _ _ _ _ _ => T_nil) (fun _ _ _ _ _ => (P_val hcl (I_mto rfl hcl (mto_cons T.cls_Matcher T.mt_Matcher__ends CK.m_Matcher__ends mto_nil) hr hg Mi.takes0 (I_var 0 rfl (vis_of rfl) rfl rfl) (I_args hcl (I_idx ⟨hu, rfl⟩ hcl (I_var 1 rfl (vis_of rfl) rfl rfl) I_int fun _ _ => rfl) (I_args hcl (I_var 8 rfl (vis_of rfl) rfl rfl) I_args0 rfl) rfl) rfl rfl rfl))) (fun _ _ _ _ _ => (G_nm ND rfl (loc_of rfl) (fn_of rfl) (by decide))) (fun _ _ _ _ _ => T_nil) (fun _ _ _ _ _ => (I_var 7 rfl (vis_of rfl) rfl rfl)) (fun _ => rfl) (fun _ _ => rfl) rfl T.n_sorted rfl rfl rfl))
  S_nil) S_nil)
  (S_cons hcl (S_set (i := 4) hcl ND rfl (loc_of rfl) (I_mto rfl hcl (mto_cons T.cls_Matcher T.mt_Matcher__ends CK.m_Matcher__ends mto_nil) hr hg tk (I_var 0 rfl (vis_of rfl) rfl rfl) (I_args hcl (I_idx ⟨hu, rfl⟩ hcl (I_var 1 rfl (vis_of rfl) rfl rfl) I_int fun _ _ => rfl) (I_args hcl (I_var 2 rfl (vis_of rfl) rfl rfl) I_args0 rfl) rfl) rfl rfl rfl) rfl (fn_of rfl))
  (S_cons hcl (S_if hcl (I_tcmp (o := .eq) rfl ⟨hu, rfl⟩ hcl (I_var 5 rfl (vis_of rfl) rfl rfl) (I_str (by decide +kernel)) rfl) (S_cons hcl (S_ret hcl (I_ssetX hcl rfl rfl T.n_sorted rfl T.n_set (I_bop (o := .add) rfl hcl (I_var 3 rfl (vis_of rfl) rfl rfl) (I_var 4 rfl (vis_of rfl) rfl rfl)) rfl rfl rfl rfl rfl rfl))
  S_nil) S_nil)
  (S_cons hcl (S_ret hcl (I_lc (own := [(SO "end", 7)]) rfl hcl rfl ND (P_val hcl (I_var 3 rfl (vis_of rfl) rfl rfl)) (blkOk_by rfl) (fun _ _ _ _ _ => (G_nm ND rfl (loc_of rfl) (fn_of rfl) (by decide))) (fun _ _ _ _ _ => (T_one (I_tcmp (o := .isin) rfl ⟨hu, rfl⟩ hcl (I_var 7 rfl (vis_of rfl) rfl rfl) (I_var 4 rfl (vis_of rfl) rfl rfl) rfl))) (fun _ _ _ _ _ => (I_var 7 rfl (vis_of rfl) rfl rfl)) (fun _ => rfl)))
  S_nil)))))))))))
theorem sc_Matcher__ends_of_star : FnScope ["self", "inner", "begin", "found", "line", "end"] ["self", "inner", "begin"] (defScope st_Matcher__ends_of_star) := ⟨rfl, rfl, rfl, by decide +kernel, rfl, by decide +kernel, by decide +kernel⟩
theorem f_Matcher__ends_of_star {gh : List GF} (TA : ∀ gh, Tx w K mg gh) (CA : ∀ gh, Cals P w K mg base n gh) (TB : ∀ m : String, m ∈ mkN → LamX.TabB base mg (cOf K (gaS K m)) (pOf K (gaS K m))) (F : Fun K "ends_of_star" "Matcher.ends_of_star" st_Matcher__ends_of_star f fd) : FnG P w K mg base (4 * n + 2 + 1 + 1 + 1 + 1) f fd ["self", "inner", "begin"] (spB K (CT w K gh) (callN tab n) c_Matcher__ends_of_star) :=
  fnG_run F sc_Matcher__ends_of_star rfl rfl (callN_gro tab n) fun cdv A out s H E W hrL hg tk hp =>
  have hcl := callN_gro tab n; have hr0 := hrL.mono (Nat.le_trans (Nat.le_succ _) (Nat.le_succ _)); have hr := hr0.mono (Nat.le_succ _); have hu := u65 hr; have hu1 := u1 hr; have T := TA gh; have CK := CA gh; have hI := T.hI; have ND := sc_Matcher__ends_of_star.nd; have C := CK.c
  (S_cons hcl (S_par (i := 3) (j := 4) hcl rfl ND rfl rfl (by decide) rfl rfl (I_args hcl (I_dsp hcl (D_cons (I_var 2 rfl (vis_of rfl) rfl rfl) I_bl D_nil) rfl rfl rfl (by simp) (by decide)) (I_args hcl (I_lst hcl (I_args hcl (I_var 2 rfl (vis_of rfl) rfl rfl) I_args0 rfl)) I_args0 rfl) rfl) rfl rfl)
  (S_cons hcl (S_while hcl hp (I_tcmp (o := .ne) rfl ⟨hu, rfl⟩ hcl (I_var 4 rfl (vis_of rfl) rfl rfl) (I_lst hcl I_args0) rfl) (S_cons hcl (S_for (vv := [5]) hcl hp rfl (P_val hcl (I_mto rfl hcl (mto_cons T.cls_Matcher T.mt_Matcher__ends CK.m_Matcher__ends mto_nil) hr hg tk (I_var 0 rfl (vis_of rfl) rfl rfl) (I_args hcl (I_var 1 rfl (vis_of rfl) rfl rfl) (I_args hcl (I_mth0 hcl PySem.F.plainAttrs_list PySem.F.slot_list_pop PySem.F.type_list_pop mt_pop_b (tyM_list fun _ _ => rfl) (I_var 4 rfl (vis_of rfl) rfl rfl) rfl rfl) I_args0 rfl) rfl) rfl rfl rfl)) (G_nm ND rfl (loc_of rfl) (fn_of rfl) (by decide)) (S_cons hcl (S_if hcl (I_tcmp (o := .notin) rfl ⟨hu, rfl⟩ hcl (I_var 5 rfl (vis_of rfl) rfl rfl) (I_var 3 rfl (vis_of rfl) rfl rfl) rfl) (S_cons hcl (S_seti ⟨hu, rfl⟩ hcl (I_var 3 rfl (vis_of rfl) rfl rfl) (I_var 5 rfl (vis_of rfl) rfl rfl) I_bl rfl rfl rfl fun _ => rfl)
  (S_cons hcl (S_ex hcl (I_mth hcl PySem.F.plainAttrs_list PySem.F.slot_list_append PySem.F.type_list_append mt_append_b (tyM_list fun _ _ => rfl) (I_var 4 rfl (vis_of rfl) rfl rfl) (I_args hcl (I_var 5 rfl (vis_of rfl) rfl rfl) I_args0 rfl) rfl rfl rfl rfl rfl) rfl)
  S_nil)) S_nil)
  S_nil) fun _ => rfl)
  S_nil))
  (S_cons hcl (S_ret hcl (I_bltB hcl (call_sortedD_b rfl) rfl T.n_sorted rfl (I_args hcl (I_var 3 rfl (vis_of rfl) rfl rfl) I_args0 rfl) (by decide) rfl rfl rfl))
  S_nil)))
theorem sc_matches : FnScope ["letters", "pattern", "text"] ["letters", "pattern", "text"] (defScope st_matches) := ⟨rfl, rfl, rfl, by decide +kernel, rfl, by decide +kernel, by decide +kernel⟩
theorem f_matches {gh : List GF} (TA : ∀ gh, Tx w K mg gh) (CA : ∀ gh, Cals P w K mg base n gh) (TB : ∀ m : String, m ∈ mkN → LamX.TabB base mg (cOf K (gaS K m)) (pOf K (gaS K m))) (F : Fun K "matches" "matches" st_matches f fd) : FnG P w K mg base (4 * n + 2 + 1 + 1 + 1 + 1) f fd ["letters", "pattern", "text"] (spB K (CT w K gh) (callN tab n) c_matches) :=
  fnG_run F sc_matches rfl rfl (callN_gro tab n) fun cdv A out s H E W hrL hg tk hp =>
  have hcl := callN_gro tab n; have hr0 := hrL.mono (Nat.le_trans (Nat.le_succ _) (Nat.le_succ _)); have hr := hr0.mono (Nat.le_succ _); have hu := u65 hr; have hu1 := u1 hr; have T := TA gh; have CK := CA gh; have hI := T.hI; have ND := sc_matches.nd; have C := CK.c
  (S_cons hcl (S_ex hcl (I_call hcl (C "need_pattern" (by decide)) hr hg tk rfl T.g_need_pattern T.k_need_pattern (I_args hcl (I_var 0 rfl (vis_of rfl) rfl rfl) (I_args hcl (I_var 1 rfl (vis_of rfl) rfl rfl) I_args0 rfl) rfl) rfl rfl rfl) rfl)
  (S_cons hcl (S_if hcl (I_tnot hcl (I_tst hcl (I_call hcl (C "is_text" (by decide)) hr hg tk rfl T.g_is_text T.k_is_text (I_args hcl (I_var 0 rfl (vis_of rfl) rfl rfl) (I_args hcl (I_var 2 rfl (vis_of rfl) rfl rfl) I_args0 rfl) rfl) rfl rfl rfl) fun _ => rfl)) (S_cons hcl (S_raise (n := "BadText") hcl rfl tk T.c_BadText PySem.F.excBase_ValueError T.e_BadText.1 T.x_BadText T.e_BadText.2.1 (raises_own T.e_BadText.2.2.1 T.e_BadText.2.2.2) rfl (I_args hcl (I_str (by decide +kernel)) I_args0 rfl) rfl rfl rfl)
  S_nil) S_nil)
  (S_cons hcl (S_ret hcl (I_cmp (o := .isin) rfl ⟨hu, rfl⟩ hcl (I_bltB hcl call_len_b rfl T.n_len rfl (I_args hcl (I_var 2 rfl (vis_of rfl) rfl rfl) I_args0 rfl) (by decide) rfl rfl rfl) (I_mto rfl hcl (mto_cons T.cls_Matcher T.mt_Matcher__ends CK.m_Matcher__ends mto_nil) hr hg tk (I_new hcl T.mk_Matcher CK.m_Matcher____init__ T.ic_Matcher hr0 hg tk rfl T.x_Matcher (I_args hcl (I_var 2 rfl (vis_of rfl) rfl rfl) I_args0 rfl) rfl rfl rfl) (I_args hcl (I_var 1 rfl (vis_of rfl) rfl rfl) (I_args hcl I_int I_args0 rfl) rfl) rfl rfl rfl) rfl))
  S_nil)))
theorem sc__law_begin : FnScope ["_law_cell", "_law_turn"] ["_law_cell", "_law_turn"] (defScope st__law_begin) := ⟨rfl, rfl, rfl, by decide +kernel, rfl, by decide +kernel, by decide +kernel⟩
theorem f__law_begin {gh : List GF} (TA : ∀ gh, Tx w K mg gh) (CA : ∀ gh, Cals P w K mg base n gh) (TB : ∀ m : String, m ∈ mkN → LamX.TabB base mg (cOf K (gaS K m)) (pOf K (gaS K m))) (F : Fun K "_law_begin" "_law_begin" st__law_begin f fd) : FnG P w K mg base (4 * n + 2 + 1 + 1 + 1 + 1) f fd ["_law_cell", "_law_turn"] (spB K (CT w K gh) (callN tab n) c__law_begin) :=
  fnG_run F sc__law_begin rfl rfl (callN_gro tab n) fun cdv A out s H E W hrL hg tk hp =>
  have hcl := callN_gro tab n; have hr0 := hrL.mono (Nat.le_trans (Nat.le_succ _) (Nat.le_succ _)); have hr := hr0.mono (Nat.le_succ _); have hu := u65 hr; have hu1 := u1 hr; have T := TA gh; have CK := CA gh; have hI := T.hI; have ND := sc__law_begin.nd; have C := CK.c
  (S_cons hcl (S_ret hcl (I_lst hcl (I_args hcl (I_bltB hcl (call_max_b rfl) rfl T.n_max rfl (I_args hcl I_int (I_args hcl (I_bop (o := .sub) rfl hcl (I_var 0 rfl (vis_of rfl) rfl rfl) (I_bop (o := .pow) rfl hcl I_int I_int)) I_args0 rfl) rfl) (by decide) rfl rfl rfl) (I_args hcl (I_bop (o := .add) rfl hcl (I_var 0 rfl (vis_of rfl) rfl rfl) (I_bop (o := .mul) rfl hcl I_int (I_var 1 rfl (vis_of rfl) rfl rfl))) (I_args hcl I_int I_args0 rfl) rfl) rfl)))
  S_nil)
theorem sc__law_draw : FnScope ["_law_state", "_law_size", "_law_found"] ["_law_state", "_law_size"] (defScope st__law_draw) := ⟨rfl, rfl, rfl, by decide +kernel, rfl, by decide +kernel, by decide +kernel⟩
theorem f__law_draw {gh : List GF} (TA : ∀ gh, Tx w K mg gh) (CA : ∀ gh, Cals P w K mg base n gh) (TB : ∀ m : String, m ∈ mkN → LamX.TabB base mg (cOf K (gaS K m)) (pOf K (gaS K m))) (F : Fun K "_law_draw" "_law_draw" st__law_draw f fd) : FnG P w K mg base (4 * n + 2 + 1 + 1 + 1 + 1) f fd ["_law_state", "_law_size"] (spB K (CT w K gh) (callN tab n) c__law_draw) :=
  fnG_run F sc__law_draw rfl rfl (callN_gro tab n) fun cdv A out s H E W hrL hg tk hp =>
  have hcl := callN_gro tab n; have hr0 := hrL.mono (Nat.le_trans (Nat.le_succ _) (Nat.le_succ _)); have hr := hr0.mono (Nat.le_succ _); have hu := u65 hr; have hu1 := u1 hr; have T := TA gh; have CK := CA gh; have hI := T.hI; have ND := sc__law_draw.nd; have C := CK.c
  (S_cons hcl (S_if hcl (I_tcmp (o := .gt) rfl ⟨hu, rfl⟩ hcl (I_idx ⟨hu, rfl⟩ hcl (I_var 0 rfl (vis_of rfl) rfl rfl) I_int fun _ _ => rfl) I_int rfl) (S_cons hcl (S_set (i := 2) hcl ND rfl (loc_of rfl) (I_bop (o := .mod) rfl hcl (I_bltT hcl call_int_b rfl T.n_int rfl (I_args hcl (I_idx ⟨hu, rfl⟩ hcl (I_var 0 rfl (vis_of rfl) rfl rfl) I_int fun _ _ => rfl) I_args0 rfl) (by decide) rfl rfl rfl) (I_var 1 rfl (vis_of rfl) rfl rfl)) rfl (fn_of rfl))
  (S_cons hcl (S_seti ⟨hu, rfl⟩ hcl (I_var 0 rfl (vis_of rfl) rfl rfl) I_int (I_bop (o := .fdiv) rfl hcl (I_idx ⟨hu, rfl⟩ hcl (I_var 0 rfl (vis_of rfl) rfl rfl) I_int fun _ _ => rfl) (I_var 1 rfl (vis_of rfl) rfl rfl)) rfl rfl rfl fun _ => rfl)
  (S_cons hcl (S_ret hcl (I_var 2 rfl (vis_of rfl) rfl rfl))
  S_nil))) S_nil)
  (S_cons hcl (S_seti ⟨hu, rfl⟩ hcl (I_var 0 rfl (vis_of rfl) rfl rfl) I_int (I_bop (o := .add) rfl hcl (I_idx ⟨hu, rfl⟩ hcl (I_var 0 rfl (vis_of rfl) rfl rfl) I_int fun _ _ => rfl) I_int) rfl rfl rfl fun _ => rfl)
  (S_cons hcl (S_set (i := 2) hcl ND rfl (loc_of rfl) (I_bop (o := .add) rfl hcl (I_bop (o := .mod) rfl hcl (I_bltT hcl call_int_b rfl T.n_int rfl (I_args hcl (I_idx ⟨hu, rfl⟩ hcl (I_var 0 rfl (vis_of rfl) rfl rfl) I_int fun _ _ => rfl) I_args0 rfl) (by decide) rfl rfl rfl) I_int) (I_bop (o := .mul) rfl hcl I_int (I_idx ⟨hu, rfl⟩ hcl (I_var 0 rfl (vis_of rfl) rfl rfl) I_int fun _ _ => rfl))) rfl (fn_of rfl))
  (S_cons hcl (S_set (i := 2) hcl ND rfl (loc_of rfl) (I_bop (o := .mul) rfl hcl (I_var 2 rfl (vis_of rfl) rfl rfl) (I_bop (o := .add) rfl hcl (I_bop (o := .add) rfl hcl (I_bop (o := .mod) rfl hcl (I_bltT hcl call_int_b rfl T.n_int rfl (I_args hcl (I_idx ⟨hu, rfl⟩ hcl (I_var 0 rfl (vis_of rfl) rfl rfl) I_int fun _ _ => rfl) I_args0 rfl) (by decide) rfl rfl rfl) I_int) (I_bop (o := .mul) rfl hcl (I_bop (o := .mul) rfl hcl I_int (I_idx ⟨hu, rfl⟩ hcl (I_var 0 rfl (vis_of rfl) rfl rfl) I_int fun _ _ => rfl)) (I_idx ⟨hu, rfl⟩ hcl (I_var 0 rfl (vis_of rfl) rfl rfl) I_int fun _ _ => rfl))) I_int)) rfl (fn_of rfl))
  (S_cons hcl (S_ret hcl (I_bop (o := .mod) rfl hcl (I_bltT hcl call_int_b rfl T.n_int rfl (I_args hcl (I_bop (o := .fdiv) rfl hcl (I_bop (o := .mod) rfl hcl (I_bltT hcl call_int_b rfl T.n_int rfl (I_args hcl (I_bop (o := .pow) rfl hcl (I_var 2 rfl (vis_of rfl) rfl rfl) I_int) I_args0 rfl) (by decide) rfl rfl rfl) I_int) I_int) I_args0 rfl) (by decide) rfl rfl rfl) (I_var 1 rfl (vis_of rfl) rfl rfl)))
  S_nil)))))
theorem sc__law_pick : FnScope ["_law_state", "_law_items"] ["_law_state", "_law_items"] (defScope st__law_pick) := ⟨rfl, rfl, rfl, by decide +kernel, rfl, by decide +kernel, by decide +kernel⟩
theorem f__law_pick {gh : List GF} (TA : ∀ gh, Tx w K mg gh) (CA : ∀ gh, Cals P w K mg base n gh) (TB : ∀ m : String, m ∈ mkN → LamX.TabB base mg (cOf K (gaS K m)) (pOf K (gaS K m))) (F : Fun K "_law_pick" "_law_pick" st__law_pick f fd) : FnG P w K mg base (4 * n + 2 + 1 + 1 + 1 + 1) f fd ["_law_state", "_law_items"] (spB K (CT w K gh) (callN tab n) c__law_pick) :=
  fnG_run F sc__law_pick rfl rfl (callN_gro tab n) fun cdv A out s H E W hrL hg tk hp =>
  have hcl := callN_gro tab n; have hr0 := hrL.mono (Nat.le_trans (Nat.le_succ _) (Nat.le_succ _)); have hr := hr0.mono (Nat.le_succ _); have hu := u65 hr; have hu1 := u1 hr; have T := TA gh; have CK := CA gh; have hI := T.hI; have ND := sc__law_pick.nd; have C := CK.c
  (S_cons hcl (S_ret hcl (I_idx ⟨hu, rfl⟩ hcl (I_var 1 rfl (vis_of rfl) rfl rfl) (I_call hcl (C "_law_draw" (by decide)) hr hg tk rfl T.g__law_draw T.k__law_draw (I_args hcl (I_var 0 rfl (vis_of rfl) rfl rfl) (I_args hcl (I_bltB hcl call_len_b rfl T.n_len rfl (I_args hcl (I_var 1 rfl (vis_of rfl) rfl rfl) I_args0 rfl) (by decide) rfl rfl rfl) I_args0 rfl) rfl) rfl rfl rfl) fun _ _ => rfl))
  S_nil)
theorem sc__law_texts : FnScope ["_law_abc", "_law_longest", "_law_turn", "_law_found", "_law_last", "_law_longer", "_law_word_here", "_law_letter"] ["_law_abc", "_law_longest"] (defScope st__law_texts) := ⟨rfl, rfl, rfl, by decide +kernel, rfl, by decide +kernel, by decide +kernel⟩
theorem f__law_texts {gh : List GF} (TA : ∀ gh, Tx w K mg gh) (CA : ∀ gh, Cals P w K mg base n gh) (TB : ∀ m : String, m ∈ mkN → LamX.TabB base mg (cOf K (gaS K m)) (pOf K (gaS K m))) (F : Fun K "_law_texts" "_law_texts" st__law_texts f fd) : FnG P w K mg base (4 * n + 2 + 1 + 1 + 1 + 1) f fd ["_law_abc", "_law_longest"] (spB K (CT w K gh) (callN tab n) c__law_texts) :=
  fnG_run F sc__law_texts rfl rfl (callN_gro tab n) fun cdv A out s H E W hrL hg tk hp =>
  have hcl := callN_gro tab n; have hr0 := hrL.mono (Nat.le_trans (Nat.le_succ _) (Nat.le_succ _)); have hr := hr0.mono (Nat.le_succ _); have hu := u65 hr; have hu1 := u1 hr; have T := TA gh; have CK := CA gh; have hI := T.hI; have ND := sc__law_texts.nd; have C := CK.c
  (S_cons hcl (S_par (i := 3) (j := 4) hcl rfl ND rfl rfl (by decide) rfl rfl (I_args hcl (I_lst hcl (I_args hcl (I_str (by decide +kernel)) I_args0 rfl)) (I_args hcl (I_lst hcl (I_args hcl (I_str (by decide +kernel)) I_args0 rfl)) I_args0 rfl) rfl) rfl rfl)
  (S_cons hcl (S_for (vv := [2]) hcl hp rfl (P_rng1 hcl rfl T.n_range (I_args hcl (I_var 1 rfl (vis_of rfl) rfl rfl) I_args0 rfl) rfl) (G_nm ND rfl (loc_of rfl) (fn_of rfl) (by decide)) (S_cons hcl (S_set (i := 5) hcl ND rfl (loc_of rfl) (I_lst hcl I_args0) rfl (fn_of rfl))
  (S_cons hcl (S_for (vv := [6]) hcl hp rfl (P_val hcl (I_var 4 rfl (vis_of rfl) rfl rfl)) (G_nm ND rfl (loc_of rfl) (fn_of rfl) (by decide)) (S_cons hcl (S_set (i := 5) hcl ND rfl (loc_of rfl) (I_bop (o := .add) rfl hcl (I_var 5 rfl (vis_of rfl) rfl rfl) (I_lc (own := [(SO "_law_letter", 7)]) rfl hcl rfl ND (P_val hcl (I_var 0 rfl (vis_of rfl) rfl rfl)) (blkOk_by rfl) (fun _ _ _ _ _ => (G_nm ND rfl (loc_of rfl) (fn_of rfl) (by decide))) (fun _ _ _ _ _ => T_nil) (fun _ _ _ _ _ => (I_bop (o := .add) rfl hcl (I_var 6 rfl (vis_of rfl) rfl rfl) (I_var 7 rfl (vis_of rfl) rfl rfl))) (fun _ => rfl))) rfl (fn_of rfl))
  S_nil) fun _ => rfl)
  (S_cons hcl (S_set (i := 4) hcl ND rfl (loc_of rfl) (I_var 5 rfl (vis_of rfl) rfl rfl) rfl (fn_of rfl))
  (S_cons hcl (S_set (i := 3) hcl ND rfl (loc_of rfl) (I_bop (o := .add) rfl hcl (I_var 3 rfl (vis_of rfl) rfl rfl) (I_var 4 rfl (vis_of rfl) rfl rfl)) rfl (fn_of rfl))
  S_nil)))) fun _ => rfl)
  (S_cons hcl (S_ret hcl (I_var 3 rfl (vis_of rfl) rfl rfl))
  S_nil)))
theorem sc__law_pattern : FnScope ["_law_state", "_law_abc", "_law_deep", "_law_way", "_law_kind", "_law_some"] ["_law_state", "_law_abc", "_law_deep"] (defScope st__law_pattern) := ⟨rfl, rfl, rfl, by decide +kernel, rfl, by decide +kernel, by decide +kernel⟩
theorem f__law_pattern {gh : List GF} (TA : ∀ gh, Tx w K mg gh) (CA : ∀ gh, Cals P w K mg base n gh) (TB : ∀ m : String, m ∈ mkN → LamX.TabB base mg (cOf K (gaS K m)) (pOf K (gaS K m))) (F : Fun K "_law_pattern" "_law_pattern" st__law_pattern f fd) : FnG P w K mg base (4 * n + 2 + 1 + 1 + 1 + 1) f fd ["_law_state", "_law_abc", "_law_deep"] (spB K (CT w K gh) (callN tab n) c__law_pattern) :=
  fnG_run F sc__law_pattern rfl rfl (callN_gro tab n) fun cdv A out s H E W hrL hg tk hp =>
  have hcl := callN_gro tab n; have hr0 := hrL.mono (Nat.le_trans (Nat.le_succ _) (Nat.le_succ _)); have hr := hr0.mono (Nat.le_succ _); have hu := u65 hr; have hu1 := u1 hr; have T := TA gh; have CK := CA gh; have hI := T.hI; have ND := sc__law_pattern.nd; have C := CK.c
  (S_cons hcl (S_set (i := 3) hcl ND rfl (loc_of rfl) (I_ite hcl (I_tcmp (o := .gt) rfl ⟨hu, rfl⟩ hcl (I_var 2 rfl (vis_of rfl) rfl rfl) I_int rfl) (I_call hcl (C "_law_draw" (by decide)) hr hg tk rfl T.g__law_draw T.k__law_draw (I_args hcl (I_var 0 rfl (vis_of rfl) rfl rfl) (I_args hcl I_int I_args0 rfl) rfl) rfl rfl rfl) (I_call hcl (C "_law_draw" (by decide)) hr hg tk rfl T.g__law_draw T.k__law_draw (I_args hcl (I_var 0 rfl (vis_of rfl) rfl rfl) (I_args hcl I_int I_args0 rfl) rfl) rfl rfl rfl)) rfl (fn_of rfl))
  (S_cons hcl (S_if hcl (I_tcmp (o := .lt) rfl ⟨hu, rfl⟩ hcl (I_var 3 rfl (vis_of rfl) rfl rfl) I_int rfl) (S_cons hcl (S_set (i := 5) hcl ND rfl (loc_of rfl) (I_lst hcl (I_args hcl (I_tup hcl (I_args hcl (I_str (by decide +kernel)) (I_args hcl (I_call hcl (C "_law_pick" (by decide)) hr hg tk rfl T.g__law_pick T.k__law_pick (I_args hcl (I_var 0 rfl (vis_of rfl) rfl rfl) (I_args hcl (I_var 1 rfl (vis_of rfl) rfl rfl) I_args0 rfl) rfl) rfl rfl rfl) I_args0 rfl) rfl)) (I_args hcl (I_tup hcl (I_args hcl (I_str (by decide +kernel)) I_args0 rfl)) (I_args hcl (I_tup hcl (I_args hcl (I_str (by decide +kernel)) I_args0 rfl)) (I_args hcl (I_tup hcl (I_args hcl (I_str (by decide +kernel)) I_args0 rfl)) I_args0 rfl) rfl) rfl) rfl)) rfl (fn_of rfl))
  (S_cons hcl (S_ret hcl (I_call hcl (C "_law_pick" (by decide)) hr hg tk rfl T.g__law_pick T.k__law_pick (I_args hcl (I_var 0 rfl (vis_of rfl) rfl rfl) (I_args hcl (I_slc hcl (I_var 5 rfl (vis_of rfl) rfl rfl) I_part0 (I_part hcl (I_bop (o := .sub) rfl hcl I_int (I_bop (o := .mod) rfl hcl (I_bltT hcl call_int_b rfl T.n_int rfl (I_args hcl (I_var 3 rfl (vis_of rfl) rfl rfl) I_args0 rfl) (by decide) rfl rfl rfl) I_int)))) I_args0 rfl) rfl) rfl rfl rfl))
  S_nil)) S_nil)
  (S_cons hcl (S_if hcl (I_tcmp (o := .isin) rfl ⟨hu, rfl⟩ hcl (I_var 3 rfl (vis_of rfl) rfl rfl) (I_tup hcl (I_args hcl I_int (I_args hcl I_int I_args0 rfl) rfl)) rfl) (S_cons hcl (S_ret hcl (I_tup hcl (I_args hcl (I_idx ⟨hu, rfl⟩ hcl (I_lst hcl (I_args hcl (I_str (by decide +kernel)) (I_args hcl (I_str (by decide +kernel)) I_args0 rfl) rfl)) (I_bop (o := .sub) rfl hcl (I_var 3 rfl (vis_of rfl) rfl rfl) I_int) fun _ _ => rfl) (I_args hcl (I_call hcl (C "_law_pattern" (by decide)) hr hg tk rfl T.g__law_pattern T.k__law_pattern (I_args hcl (I_var 0 rfl (vis_of rfl) rfl rfl) (I_args hcl (I_var 1 rfl (vis_of rfl) rfl rfl) (I_args hcl (I_bop (o := .sub) rfl hcl (I_var 2 rfl (vis_of rfl) rfl rfl) I_int) I_args0 rfl) rfl) rfl) rfl rfl rfl) I_args0 rfl) rfl)))
  S_nil) S_nil)
  (S_cons hcl (S_set (i := 4) hcl ND rfl (loc_of rfl) (I_idx ⟨hu, rfl⟩ hcl (I_lst hcl (I_args hcl (I_str (by decide +kernel)) (I_args hcl (I_str (by decide +kernel)) (I_args hcl (I_str (by decide +kernel)) I_args0 rfl) rfl) rfl)) (I_bop (o := .sub) rfl hcl (I_var 3 rfl (vis_of rfl) rfl rfl) I_int) fun _ _ => rfl) rfl (fn_of rfl))
  (S_cons hcl (S_ret hcl (I_tup hcl (I_args hcl (I_var 4 rfl (vis_of rfl) rfl rfl) (I_args hcl (I_call hcl (C "_law_pattern" (by decide)) hr hg tk rfl T.g__law_pattern T.k__law_pattern (I_args hcl (I_var 0 rfl (vis_of rfl) rfl rfl) (I_args hcl (I_var 1 rfl (vis_of rfl) rfl rfl) (I_args hcl (I_bop (o := .sub) rfl hcl (I_var 2 rfl (vis_of rfl) rfl rfl) I_int) I_args0 rfl) rfl) rfl) rfl rfl rfl) (I_args hcl (I_call hcl (C "_law_pattern" (by decide)) hr hg tk rfl T.g__law_pattern T.k__law_pattern (I_args hcl (I_var 0 rfl (vis_of rfl) rfl rfl) (I_args hcl (I_var 1 rfl (vis_of rfl) rfl rfl) (I_args hcl (I_bop (o := .sub) rfl hcl (I_var 2 rfl (vis_of rfl) rfl rfl) I_int) I_args0 rfl) rfl) rfl) rfl rfl rfl) I_args0 rfl) rfl) rfl)))
  S_nil)))))
theorem sc__law_matches : FnScope ["_law_form", "_law_word_here", "_law_kind", "_law_cut", "_law_one", "_law_other"] ["_law_form", "_law_word_here"] (defScope st__law_matches) := ⟨rfl, rfl, rfl, by decide +kernel, rfl, by decide +kernel, by decide +kernel⟩
theorem f__law_matches {gh : List GF} (TA : ∀ gh, Tx w K mg gh) (CA : ∀ gh, Cals P w K mg base n gh) (TB : ∀ m : String, m ∈ mkN → LamX.TabB base mg (cOf K (gaS K m)) (pOf K (gaS K m))) (F : Fun K "_law_matches" "_law_matches" st__law_matches f fd) : FnG P w K mg base (4 * n + 2 + 1 + 1 + 1 + 1) f fd ["_law_form", "_law_word_here"] (spB K (CT w K gh) (callN tab n) c__law_matches) :=
  fnG_run F sc__law_matches rfl rfl (callN_gro tab n) fun cdv A out s H E W hrL hg tk hp =>
  have hcl := callN_gro tab n; have hr0 := hrL.mono (Nat.le_trans (Nat.le_succ _) (Nat.le_succ _)); have hr := hr0.mono (Nat.le_succ _); have hu := u65 hr; have hu1 := u1 hr; have T := TA gh; have CK := CA gh; have hI := T.hI; have ND := sc__law_matches.nd; have C := CK.c
  (S_cons hcl (S_set (i := 2) hcl ND rfl (loc_of rfl) (I_idx ⟨hu, rfl⟩ hcl (I_var 0 rfl (vis_of rfl) rfl rfl) I_int fun _ _ => rfl) rfl (fn_of rfl))
  (S_cons hcl (S_if hcl (I_tcmp (o := .isin) rfl ⟨hu, rfl⟩ hcl (I_var 2 rfl (vis_of rfl) rfl rfl) (I_tup hcl (I_args hcl (I_str (by decide +kernel)) (I_args hcl (I_str (by decide +kernel)) (I_args hcl (I_str (by decide +kernel)) I_args0 rfl) rfl) rfl)) rfl) (S_cons hcl (S_ret hcl (I_or hcl (I_and hcl (I_cmp (o := .eq) rfl ⟨hu, rfl⟩ hcl (I_var 2 rfl (vis_of rfl) rfl rfl) (I_str (by decide +kernel)) rfl) (I_one (I_cmp (o := .eq) rfl ⟨hu, rfl⟩ hcl (I_var 1 rfl (vis_of rfl) rfl rfl) (I_str (by decide +kernel)) rfl))) (I_one (I_and hcl (I_cmp (o := .eq) rfl ⟨hu, rfl⟩ hcl (I_var 2 rfl (vis_of rfl) rfl rfl) (I_str (by decide +kernel)) rfl) (I_one (I_cmp (o := .eq) rfl ⟨hu, rfl⟩ hcl (I_bltB hcl call_len_b rfl T.n_len rfl (I_args hcl (I_var 1 rfl (vis_of rfl) rfl rfl) I_args0 rfl) (by decide) rfl rfl rfl) I_int rfl))))))
  S_nil) S_nil)
  (S_cons hcl (S_if hcl (I_tcmp (o := .eq) rfl ⟨hu, rfl⟩ hcl (I_var 2 rfl (vis_of rfl) rfl rfl) (I_str (by decide +kernel)) rfl) (S_cons hcl (S_ret hcl (I_cmp (o := .eq) rfl ⟨hu, rfl⟩ hcl (I_var 1 rfl (vis_of rfl) rfl rfl) (I_idx ⟨hu, rfl⟩ hcl (I_var 0 rfl (vis_of rfl) rfl rfl) I_int fun _ _ => rfl) rfl))
  S_nil) S_nil)
  (S_cons hcl (S_if hcl (I_tcmp (o := .isin) rfl ⟨hu, rfl⟩ hcl (I_var 2 rfl (vis_of rfl) rfl rfl) (I_tup hcl (I_args hcl (I_str (by decide +kernel)) (I_args hcl (I_str (by decide +kernel)) I_args0 rfl) rfl)) rfl) (S_cons hcl (S_par (i := 4) (j := 5) hcl rfl ND rfl rfl (by decide) rfl rfl (I_args hcl (I_call hcl (C "_law_matches" (by decide)) hr hg tk rfl T.g__law_matches T.k__law_matches (I_args hcl (I_idx ⟨hu, rfl⟩ hcl (I_var 0 rfl (vis_of rfl) rfl rfl) I_int fun _ _ => rfl) (I_args hcl (I_var 1 rfl (vis_of rfl) rfl rfl) I_args0 rfl) rfl) rfl rfl rfl) (I_args hcl (I_call hcl (C "_law_matches" (by decide)) hr hg tk rfl T.g__law_matches T.k__law_matches (I_args hcl (I_idx ⟨hu, rfl⟩ hcl (I_var 0 rfl (vis_of rfl) rfl rfl) I_int fun _ _ => rfl) (I_args hcl (I_var 1 rfl (vis_of rfl) rfl rfl) I_args0 rfl) rfl) rfl rfl rfl) I_args0 rfl) rfl) rfl rfl)
  (S_cons hcl (S_ret hcl (I_ite hcl (I_tcmp (o := .eq) rfl ⟨hu, rfl⟩ hcl (I_var 2 rfl (vis_of rfl) rfl rfl) (I_str (by decide +kernel)) rfl) (I_or hcl (I_var 4 rfl (vis_of rfl) rfl rfl) (I_one (I_var 5 rfl (vis_of rfl) rfl rfl))) (I_and hcl (I_var 4 rfl (vis_of rfl) rfl rfl) (I_one (I_var 5 rfl (vis_of rfl) rfl rfl)))))
  S_nil)) S_nil)
  (S_cons hcl (S_if hcl (I_tcmp (o := .eq) rfl ⟨hu, rfl⟩ hcl (I_var 2 rfl (vis_of rfl) rfl rfl) (I_str (by decide +kernel)) rfl) (S_cons hcl (S_ret hcl (I_nt hcl (I_call hcl (C "_law_matches" (by decide)) hr hg tk rfl T.g__law_matches T.k__law_matches (I_args hcl (I_idx ⟨hu, rfl⟩ hcl (I_var 0 rfl (vis_of rfl) rfl rfl) I_int fun _ _ => rfl) (I_args hcl (I_var 1 rfl (vis_of rfl) rfl rfl) I_args0 rfl) rfl) rfl rfl rfl)))
  S_nil) S_nil)
  (S_cons hcl (S_if hcl (I_tcmp (o := .eq) rfl ⟨hu, rfl⟩ hcl (I_var 2 rfl (vis_of rfl) rfl rfl) (I_str (by decide +kernel)) rfl) (S_cons hcl (S_for (vv := [3]) hcl hp rfl (P_rng1 hcl rfl T.n_range (I_args hcl (I_bop (o := .add) rfl hcl (I_bltB hcl call_len_b rfl T.n_len rfl (I_args hcl (I_var 1 rfl (vis_of rfl) rfl rfl) I_args0 rfl) (by decide) rfl rfl rfl) I_int) I_args0 rfl) rfl) (G_nm ND rfl (loc_of rfl) (fn_of rfl) (by decide)) (S_cons hcl (S_if hcl (I_tw (I_wand hcl (I_tst hcl (I_call hcl (C "_law_matches" (by decide)) hr hg tk rfl T.g__law_matches T.k__law_matches (I_args hcl (I_idx ⟨hu, rfl⟩ hcl (I_var 0 rfl (vis_of rfl) rfl rfl) I_int fun _ _ => rfl) (I_args hcl (I_slc hcl (I_var 1 rfl (vis_of rfl) rfl rfl) I_part0 (I_part hcl (I_var 3 rfl (vis_of rfl) rfl rfl))) I_args0 rfl) rfl) rfl rfl rfl) fun _ => rfl) (I_wand1 (I_tst hcl (I_call hcl (C "_law_matches" (by decide)) hr hg tk rfl T.g__law_matches T.k__law_matches (I_args hcl (I_idx ⟨hu, rfl⟩ hcl (I_var 0 rfl (vis_of rfl) rfl rfl) I_int fun _ _ => rfl) (I_args hcl (I_slc hcl (I_var 1 rfl (vis_of rfl) rfl rfl) (I_part hcl (I_var 3 rfl (vis_of rfl) rfl rfl)) I_part0) I_args0 rfl) rfl) rfl rfl rfl) fun _ => rfl)))) (S_cons hcl (S_ret hcl I_bl)
  S_nil) S_nil)
  S_nil) fun _ => rfl)
  (S_cons hcl (S_ret hcl I_bl)
  S_nil)) S_nil)
  (S_cons hcl (S_for (vv := [3]) hcl hp rfl (P_rng2 hcl rfl T.n_range (I_args hcl I_int (I_args hcl (I_bop (o := .add) rfl hcl (I_bltB hcl call_len_b rfl T.n_len rfl (I_args hcl (I_var 1 rfl (vis_of rfl) rfl rfl) I_args0 rfl) (by decide) rfl rfl rfl) I_int) I_args0 rfl) rfl) rfl rfl) (G_nm ND rfl (loc_of rfl) (fn_of rfl) (by decide)) (S_cons hcl (S_if hcl (I_tw (I_wand hcl (I_tst hcl (I_call hcl (C "_law_matches" (by decide)) hr hg tk rfl T.g__law_matches T.k__law_matches (I_args hcl (I_idx ⟨hu, rfl⟩ hcl (I_var 0 rfl (vis_of rfl) rfl rfl) I_int fun _ _ => rfl) (I_args hcl (I_slc hcl (I_var 1 rfl (vis_of rfl) rfl rfl) I_part0 (I_part hcl (I_var 3 rfl (vis_of rfl) rfl rfl))) I_args0 rfl) rfl) rfl rfl rfl) fun _ => rfl) (I_wand1 (I_tst hcl (I_call hcl (C "_law_matches" (by decide)) hr hg tk rfl T.g__law_matches T.k__law_matches (I_args hcl (I_var 0 rfl (vis_of rfl) rfl rfl) (I_args hcl (I_slc hcl (I_var 1 rfl (vis_of rfl) rfl rfl) (I_part hcl (I_var 3 rfl (vis_of rfl) rfl rfl)) I_part0) I_args0 rfl) rfl) rfl rfl rfl) fun _ => rfl)))) (S_cons hcl (S_ret hcl I_bl)
  S_nil) S_nil)
  S_nil) fun _ => rfl)
  (S_cons hcl (S_ret hcl (I_cmp (o := .eq) rfl ⟨hu, rfl⟩ hcl (I_var 1 rfl (vis_of rfl) rfl rfl) (I_str (by decide +kernel)) rfl))
  S_nil))))))))
theorem sc__law_word : FnScope ["_law_work", "_law_caught", "error"] ["_law_work"] (defScope st__law_word) := ⟨rfl, rfl, rfl, by decide +kernel, rfl, by decide +kernel, by decide +kernel⟩
theorem t__law_word {gh : List GF} (TA : ∀ gh, Tx w K mg gh) (CA : ∀ gh, Cals P w K mg base n gh) (F : Fun K "_law_word" "_law_word" st__law_word (gaS K "_law_word") fd) (B : L2.Binds K fd ["_law_work"] []) : LCal P w K mg base (CT w K gh) (callN tab (n + 1)) (4 * n + 2 + 1 + 1) "_law_word" (SO "_law_word") st__law_word (gaS K "_law_word") ["_law_work", "_law_caught", "error"] "_law_work" :=
  lcal_run (d := c__law_word) F B sc__law_word rfl rfl rfl (vis_of rfl) (callN_gro tab n) (fun _ _ _ => rfl) fun cdv A out s H E W n0 kb hr0 hg tk hp hwk =>
  have hcl := clL_gro (callN_gro tab n) n0 kb; have hr := hr0.mono (Nat.le_succ _); have hu := u65 hr; have hu1 := u1 hr; have T := TA gh; have CK := CA gh; have hI := T.hI; have ND := sc__law_word.nd; have C := CK.c
  (S_cons hcl (S_set (i := 1) hcl ND rfl (loc_of rfl) I_non rfl (fn_of rfl))
  (S_cons hcl (S_tryA (ks := ["AskError", "BadLetters", "BadText", "BadPattern"]) (i := 2) hcl rfl rfl ND rfl rfl ⟨rfl, rfl, .inl T.x_AskError⟩ tk T.m_AskError (fun W pn xe tk hp => (S_cons hcl (S_ex hcl (hwk _ _ _ tk _ _) rfl)
  S_nil)) fun a pn => (S_cons hcl (S_set (i := 1) hcl ND rfl (loc_of rfl) (I_var 2 rfl (vis_of rfl) rfl rfl) rfl (fn_of rfl))
  S_nil))
  (S_cons hcl (S_if hcl (I_tcmp (o := .is) rfl ⟨hu, rfl⟩ hcl (I_var 1 rfl (vis_of rfl) rfl rfl) I_non rfl) (S_cons hcl (S_ret hcl I_non)
  S_nil) S_nil)
  (S_cons hcl (S_ret hcl (I_ite hcl (I_tst hcl (I_isi hcl hI T.hE rfl T.n_isinstance rfl (I_var 1 rfl (vis_of rfl) rfl rfl) (I_own rfl T.x_BadPattern rfl) (.own _) T.ty_BadPattern rfl rfl rfl) fun _ => rfl) (I_str (by decide +kernel)) (I_ite hcl (I_tst hcl (I_isi hcl hI T.hE rfl T.n_isinstance rfl (I_var 1 rfl (vis_of rfl) rfl rfl) (I_own rfl T.x_BadText rfl) (.own _) T.ty_BadText rfl rfl rfl) fun _ => rfl) (I_str (by decide +kernel)) (I_str (by decide +kernel)))))
  S_nil))))
theorem sc_law : FnScope ["_law_script", "_law_k", "_law_cell", "_law_state", "_law_abc", "_law_turn", "_law_some", "_law_odd", "_law_form", "_law_word_here"] ["_law_script"] (defScope st_law) := ⟨rfl, rfl, rfl, by decide +kernel, rfl, by decide +kernel, by decide +kernel⟩
theorem f_law {gh : List GF} (TA : ∀ gh, Tx w K mg gh) (CA : ∀ gh, Cals P w K mg base n gh) (TB : ∀ m : String, m ∈ mkN → LamX.TabB base mg (cOf K (gaS K m)) (pOf K (gaS K m))) (F : Fun K "law" "law" st_law (gaS K "law") fd) : FnG P w K mg base (4 * n + 2 + 1 + 1 + 1 + 1) (gaS K "law") fd ["_law_script"] (spB K (CT w K gh) (callN tab n) c_law) :=
  fnG_runL F sc_law rfl rfl (callN_gro tab n) fun cdv A out s H E W hc hrL hg tk hp =>
  have hcl := callN_gro tab n; have hr0 := hrL.mono (Nat.le_trans (Nat.le_succ _) (Nat.le_succ _)); have hr := hr0.mono (Nat.le_succ _); have hu := u65 hr; have hu1 := u1 hr; have T := TA gh; have CK := CA gh; have hI := T.hI; have ND := sc_law.nd; have C := CK.c
  (S_cons hcl (S_for (vv := [1, 2]) hcl hp rfl (P_enumv hcl rfl T.n_enumerate (I_args hcl (I_slc hcl (I_or hcl (I_var 0 rfl (vis_of rfl) rfl rfl) (I_one (I_lst hcl (I_args hcl I_int I_args0 rfl)))) I_part0 (I_part hcl I_int)) I_args0 rfl) rfl) (G_tup rfl (Gs_cons (G_nm ND rfl (loc_of rfl) (fn_of rfl) (by decide)) (Gs_cons (G_nm ND rfl (loc_of rfl) (fn_of rfl) (by decide)) Gs_nil rfl) rfl) rfl rfl rfl) (S_cons hcl (S_set (i := 3) hcl ND rfl (loc_of rfl) (I_call hcl (C "_law_begin" (by decide)) hr hg tk rfl T.g__law_begin T.k__law_begin (I_args hcl (I_var 2 rfl (vis_of rfl) rfl rfl) (I_args hcl (I_var 1 rfl (vis_of rfl) rfl rfl) I_args0 rfl) rfl) rfl rfl rfl) rfl (fn_of rfl))
  (S_cons hcl (S_set (i := 4) hcl ND rfl (loc_of rfl) (I_call hcl (C "_law_pick" (by decide)) hr hg tk rfl T.g__law_pick T.k__law_pick (I_args hcl (I_var 3 rfl (vis_of rfl) rfl rfl) (I_args hcl (I_lst hcl (I_args hcl (I_str (by decide +kernel)) (I_args hcl (I_str (by decide +kernel)) (I_args hcl (I_str (by decide +kernel)) (I_args hcl (I_str (by decide +kernel)) (I_args hcl (I_str (by decide +kernel)) (I_args hcl (I_str (by decide +kernel)) I_args0 rfl) rfl) rfl) rfl) rfl) rfl)) I_args0 rfl) rfl) rfl rfl rfl) rfl (fn_of rfl))
  (S_cons hcl (S_for (vv := [5]) hcl hp rfl (P_rng1 hcl rfl T.n_range (I_args hcl I_int I_args0 rfl) rfl) (G_nm ND rfl (loc_of rfl) (fn_of rfl) (by decide)) (S_cons hcl (S_set (i := 8) hcl ND rfl (loc_of rfl) (I_call hcl (C "_law_pattern" (by decide)) hr hg tk rfl T.g__law_pattern T.k__law_pattern (I_args hcl (I_var 3 rfl (vis_of rfl) rfl rfl) (I_args hcl (I_var 4 rfl (vis_of rfl) rfl rfl) (I_args hcl (I_bop (o := .add) rfl hcl I_int (I_call hcl (C "_law_draw" (by decide)) hr hg tk rfl T.g__law_draw T.k__law_draw (I_args hcl (I_var 3 rfl (vis_of rfl) rfl rfl) (I_args hcl I_int I_args0 rfl) rfl) rfl rfl rfl)) I_args0 rfl) rfl) rfl) rfl rfl rfl) rfl (fn_of rfl))
  (S_cons hcl (S_for (vv := [9]) hcl hp rfl (P_val hcl (I_call hcl (C "_law_texts" (by decide)) hr hg tk rfl T.g__law_texts T.k__law_texts (I_args hcl (I_var 4 rfl (vis_of rfl) rfl rfl) (I_args hcl (I_ite hcl (I_tcmp (o := .eq) rfl ⟨hu, rfl⟩ hcl (I_bltB hcl call_len_b rfl T.n_len rfl (I_args hcl (I_var 4 rfl (vis_of rfl) rfl rfl) I_args0 rfl) (by decide) rfl rfl rfl) I_int rfl) I_int I_int) I_args0 rfl) rfl) rfl rfl rfl)) (G_nm ND rfl (loc_of rfl) (fn_of rfl) (by decide)) (S_cons hcl (S_if hcl (I_tcmp (o := .ne) rfl ⟨hu, rfl⟩ hcl (I_bltB hcl (call_repr_b T.sys hu hg) rfl T.n_repr rfl (I_args hcl (I_call hcl (C "matches" (by decide)) hr hg tk rfl T.g_matches T.k_matches (I_args hcl (I_var 4 rfl (vis_of rfl) rfl rfl) (I_args hcl (I_var 8 rfl (vis_of rfl) rfl rfl) (I_args hcl (I_var 9 rfl (vis_of rfl) rfl rfl) I_args0 rfl) rfl) rfl) rfl rfl rfl) I_args0 rfl) (by decide) rfl rfl rfl) (I_bltB hcl (call_repr_b T.sys hu hg) rfl T.n_repr rfl (I_args hcl (I_call hcl (C "_law_matches" (by decide)) hr hg tk rfl T.g__law_matches T.k__law_matches (I_args hcl (I_var 8 rfl (vis_of rfl) rfl rfl) (I_args hcl (I_var 9 rfl (vis_of rfl) rfl rfl) I_args0 rfl) rfl) rfl rfl rfl) I_args0 rfl) (by decide) rfl rfl rfl) rfl) (S_cons hcl (S_ret hcl I_bl)
  S_nil) S_nil)
  S_nil) fun _ => rfl)
  S_nil)) fun _ => rfl)
  (S_cons hcl (S_set (i := 6) hcl ND rfl (loc_of rfl) (I_lst hcl (I_args hcl I_non (I_args hcl I_int (I_args hcl (I_str (by decide +kernel)) (I_args hcl (I_str (by decide +kernel)) (I_args hcl (I_tup hcl I_args0) (I_args hcl (I_tup hcl (I_args hcl (I_str (by decide +kernel)) I_args0 rfl)) (I_args hcl (I_lst hcl (I_args hcl (I_str (by decide +kernel)) I_args0 rfl)) (I_args hcl (I_tup hcl (I_args hcl (I_str (by decide +kernel)) (I_args hcl (I_str (by decide +kernel)) I_args0 rfl) rfl)) (I_args hcl (I_tup hcl (I_args hcl (I_str (by decide +kernel)) (I_args hcl (I_str (by decide +kernel)) I_args0 rfl) rfl)) (I_args hcl I_dct0 (I_args hcl (I_tup hcl (I_args hcl (I_str (by decide +kernel)) (I_args hcl I_int I_args0 rfl) rfl)) I_args0 rfl) rfl) rfl) rfl) rfl) rfl) rfl) rfl) rfl) rfl) rfl)) rfl (fn_of rfl))
  (S_cons hcl (S_set (i := 7) hcl ND rfl (loc_of rfl) (I_call hcl (C "_law_pick" (by decide)) hr hg tk rfl T.g__law_pick T.k__law_pick (I_args hcl (I_var 3 rfl (vis_of rfl) rfl rfl) (I_args hcl (I_var 6 rfl (vis_of rfl) rfl rfl) I_args0 rfl) rfl) rfl rfl rfl) rfl (fn_of rfl))
  (S_cons hcl (S_if hcl (I_tcmp (o := .ne) rfl ⟨hu, rfl⟩ hcl (I_lam hcl CK.t__law_word hrL hg tk rfl T.g__law_word T.k__law_word (TB "law" (by decide)) (hc.trans (mkB_c T.mkb_law)) (List.Mem.head _) (tbs_hu (l := (CT w K gh).tbs) T.tnd (List.Mem.head _)) (LamX.lamS_by rfl) rfl (fun _ _ _ _ _ => rfl) (fun y A outer s H E f' c' hr0 hg => have T := TA (y :: gh); have CK := CA (y :: gh); have C := CK.c; have hI := T.hI; have hr := hr0.mono (Nat.le_succ _); have hu := u65 hr; have hu1 := u1 hr; have tk := takes_of rfl rfl rfl rfl; (I_call hcl (C "matches" (by decide)) hr hg tk rfl T.g_matches T.k_matches (I_args hcl (I_var 4 rfl (vis_of rfl) rfl rfl) (I_args hcl (I_var 7 rfl (vis_of rfl) rfl rfl) (I_args hcl I_non I_args0 rfl) rfl) rfl) rfl rfl rfl)) rfl rfl rfl) (I_str (by decide +kernel)) rfl) (S_cons hcl (S_ret hcl I_bl)
  S_nil) S_nil)
  (S_cons hcl (S_set (i := 7) hcl ND rfl (loc_of rfl) (I_call hcl (C "_law_pick" (by decide)) hr hg tk rfl T.g__law_pick T.k__law_pick (I_args hcl (I_var 3 rfl (vis_of rfl) rfl rfl) (I_args hcl (I_lst hcl (I_args hcl I_non (I_args hcl I_int (I_args hcl (I_str (by decide +kernel)) (I_args hcl (I_bop (o := .add) rfl hcl (I_var 4 rfl (vis_of rfl) rfl rfl) (I_str (by decide +kernel))) (I_args hcl (I_lst hcl (I_args hcl (I_str (by decide +kernel)) I_args0 rfl)) (I_args hcl (I_tup hcl (I_args hcl (I_str (by decide +kernel)) I_args0 rfl)) (I_args hcl I_bl (I_args hcl (I_bop (o := .add) rfl hcl (I_var 4 rfl (vis_of rfl) rfl rfl) (I_str (by decide +kernel))) I_args0 rfl) rfl) rfl) rfl) rfl) rfl) rfl) rfl)) I_args0 rfl) rfl) rfl rfl rfl) rfl (fn_of rfl))
  (S_cons hcl (S_if hcl (I_tcmp (o := .ne) rfl ⟨hu, rfl⟩ hcl (I_lam hcl CK.t__law_word hrL hg tk rfl T.g__law_word T.k__law_word (TB "law" (by decide)) (hc.trans (mkB_c T.mkb_law)) (List.Mem.head _) (tbs_hu (l := (CT w K gh).tbs) T.tnd (List.Mem.head _)) (LamX.lamS_by rfl) rfl (fun _ _ _ _ _ => rfl) (fun y A outer s H E f' c' hr0 hg => have T := TA (y :: gh); have CK := CA (y :: gh); have C := CK.c; have hI := T.hI; have hr := hr0.mono (Nat.le_succ _); have hu := u65 hr; have hu1 := u1 hr; have tk := takes_of rfl rfl rfl rfl; (I_callk hcl CK.k0 hr hg tk rfl T.g_matches T.k_matches (K_cons hcl (I_var 7 rfl (vis_of rfl) rfl rfl) (K_cons hcl (I_var 8 rfl (vis_of rfl) rfl rfl) (K_cons hcl (I_var 4 rfl (vis_of rfl) rfl rfl) K_nil))) rfl rfl rfl rfl rfl)) rfl rfl rfl) (I_str (by decide +kernel)) rfl) (S_cons hcl (S_ret hcl I_bl)
  S_nil) S_nil)
  S_nil)))))))) fun _ => rfl)
  (S_cons hcl (S_ret hcl I_bl)
  S_nil))
theorem mem_defs {M : String → Prop} (h0 : M "is_alphabet") (h1 : M "need_letters") (h2 : M "is_text") (h3 : M "is_node") (h4 : M "inner_parts") (h5 : M "is_pattern") (h6 : M "need_pattern") (h7 : M "matches") (h8 : M "_law_begin") (h9 : M "_law_draw") (h10 : M "_law_pick") (h11 : M "_law_texts") (h12 : M "_law_pattern") (h13 : M "_law_matches") (h14 : M "law") : ∀ g, g ∈ defN → M g := by
  intro g hg
  repeat (first | (rcases List.mem_cons.mp hg with e | hg; (subst e; assumption)) | cases hg)
theorem cals (TA : ∀ gh, Tx w K mg gh) (TB : ∀ m : String, m ∈ mkN → LamX.TabB base mg (cOf K (gaS K m)) (pOf K (gaS K m))) {fd0 : FuncData} (F0 : Fun K "is_alphabet" "is_alphabet" st_is_alphabet (gaS K "is_alphabet") fd0) (B0 : L2.Binds K fd0 ["value"] []) {fd1 : FuncData} (F1 : Fun K "need_letters" "need_letters" st_need_letters (gaS K "need_letters") fd1) (B1 : L2.Binds K fd1 ["value"] []) {fd2 : FuncData} (F2 : Fun K "is_text" "is_text" st_is_text (gaS K "is_text") fd2) (B2 : L2.Binds K fd2 ["letters", "value"] []) {fd3 : FuncData} (F3 : Fun K "is_node" "is_node" st_is_node (gaS K "is_node") fd3) (B3 : L2.Binds K fd3 ["letters", "value"] []) {fd4 : FuncData} (F4 : Fun K "inner_parts" "inner_parts" st_inner_parts (gaS K "inner_parts") fd4) (B4 : L2.Binds K fd4 ["pattern"] []) {fd5 : FuncData} (F5 : Fun K "is_pattern" "is_pattern" st_is_pattern (gaS K "is_pattern") fd5) (B5 : L2.Binds K fd5 ["letters", "value"] []) {fd6 : FuncData} (F6 : Fun K "need_pattern" "need_pattern" st_need_pattern (gaS K "need_pattern") fd6) (B6 : L2.Binds K fd6 ["letters", "value"] []) {fd7 : FuncData} (F7 : Fun K "__init__" "Matcher.__init__" st_Matcher____init__ (He.ma K (gaS K "Matcher") (SO "__init__")) fd7) (B7 : L2.Binds K fd7 ["self", "text"] []) {fd8 : FuncData} (F8 : Fun K "ends" "Matcher.ends" st_Matcher__ends (He.ma K (gaS K "Matcher") (SO "ends")) fd8) (B8 : L2.Binds K fd8 ["self", "pattern", "begin"] []) {fd9 : FuncData} (F9 : Fun K "ends_of" "Matcher.ends_of" st_Matcher__ends_of (He.ma K (gaS K "Matcher") (SO "ends_of")) fd9) (B9 : L2.Binds K fd9 ["self", "pattern", "begin"] []) {fd10 : FuncData} (F10 : Fun K "ends_of_star" "Matcher.ends_of_star" st_Matcher__ends_of_star (He.ma K (gaS K "Matcher") (SO "ends_of_star")) fd10) (B10 : L2.Binds K fd10 ["self", "inner", "begin"] []) {fd11 : FuncData} (F11 : Fun K "matches" "matches" st_matches (gaS K "matches") fd11) (B11 : L2.Binds K fd11 ["letters", "pattern", "text"] []) {fd12 : FuncData} (F12 : Fun K "_law_begin" "_law_begin" st__law_begin (gaS K "_law_begin") fd12) (B12 : L2.Binds K fd12 ["_law_cell", "_law_turn"] []) {fd13 : FuncData} (F13 : Fun K "_law_draw" "_law_draw" st__law_draw (gaS K "_law_draw") fd13) (B13 : L2.Binds K fd13 ["_law_state", "_law_size"] []) {fd14 : FuncData} (F14 : Fun K "_law_pick" "_law_pick" st__law_pick (gaS K "_law_pick") fd14) (B14 : L2.Binds K fd14 ["_law_state", "_law_items"] []) {fd15 : FuncData} (F15 : Fun K "_law_texts" "_law_texts" st__law_texts (gaS K "_law_texts") fd15) (B15 : L2.Binds K fd15 ["_law_abc", "_law_longest"] []) {fd16 : FuncData} (F16 : Fun K "_law_pattern" "_law_pattern" st__law_pattern (gaS K "_law_pattern") fd16) (B16 : L2.Binds K fd16 ["_law_state", "_law_abc", "_law_deep"] []) {fd17 : FuncData} (F17 : Fun K "_law_matches" "_law_matches" st__law_matches (gaS K "_law_matches") fd17) (B17 : L2.Binds K fd17 ["_law_form", "_law_word_here"] []) {fd18 : FuncData} (F18 : Fun K "_law_word" "_law_word" st__law_word (gaS K "_law_word") fd18) (B18 : L2.Binds K fd18 ["_law_work"] []) {fd19 : FuncData} (F19 : Fun K "law" "law" st_law (gaS K "law") fd19) (B19 : L2.Binds K fd19 ["_law_script"] [])  (KB0 : KBi fd11 ["letters", "pattern", "text"] ["text", "pattern", "letters"] [2, 1, 0]) : ∀ (n : Nat) (gh : List GF), Cals P w K mg base n gh
  | 0 => fun gh => ⟨mem_defs (cal_zero B0) (cal_zero B1) (cal_zero B2) (cal_zero B3) (cal_zero B4) (cal_zero B5) (cal_zero B6) (cal_zero B11) (cal_zero B12) (cal_zero B13) (cal_zero B14) (cal_zero B15) (cal_zero B16) (cal_zero B17) (cal_zero B19), cal_zero B7, cal_zero B8, cal_zero B9, cal_zero B10, kcal_zero KB0, fun y => lcal_bad rfl (vis_of rfl) fun _ _ _ => rfl⟩
  | n + 1 => fun gh => by
    have C := cals TA TB F0 B0 F1 B1 F2 B2 F3 B3 F4 B4 F5 B5 F6 B6 F7 B7 F8 B8 F9 B9 F10 B10 F11 B11 F12 B12 F13 B13 F14 B14 F15 B15 F16 B16 F17 B17 F18 B18 F19 B19 KB0 n
    exact ⟨mem_defs (cal_succ (d := c_is_alphabet) rfl (f_is_alphabet TA C TB F0) B0) (cal_succ (d := c_need_letters) rfl (f_need_letters TA C TB F1) B1) (cal_succ (d := c_is_text) rfl (f_is_text TA C TB F2) B2) (cal_succ (d := c_is_node) rfl (f_is_node TA C TB F3) B3) (cal_succ (d := c_inner_parts) rfl (f_inner_parts TA C TB F4) B4) (cal_succ (d := c_is_pattern) rfl (f_is_pattern TA C TB F5) B5) (cal_succ (d := c_need_pattern) rfl (f_need_pattern TA C TB F6) B6) (cal_succ (d := c_matches) rfl (f_matches TA C TB F11) B11) (cal_succ (d := c__law_begin) rfl (f__law_begin TA C TB F12) B12) (cal_succ (d := c__law_draw) rfl (f__law_draw TA C TB F13) B13) (cal_succ (d := c__law_pick) rfl (f__law_pick TA C TB F14) B14) (cal_succ (d := c__law_texts) rfl (f__law_texts TA C TB F15) B15) (cal_succ (d := c__law_pattern) rfl (f__law_pattern TA C TB F16) B16) (cal_succ (d := c__law_matches) rfl (f__law_matches TA C TB F17) B17) (cal_succ (d := c_law) rfl (f_law TA C TB F19) B19), cal_succ (d := c_Matcher____init__) rfl (f_Matcher____init__ TA C TB F7) B7, cal_succ (d := c_Matcher__ends) rfl (f_Matcher__ends TA C TB F8) B8, cal_succ (d := c_Matcher__ends_of) rfl (f_Matcher__ends_of TA C TB F9) B9, cal_succ (d := c_Matcher__ends_of_star) rfl (f_Matcher__ends_of_star TA C TB F10) B10, kcal_succ (d := c_matches) rfl (f_matches TA C TB F11) KB0, fun y => (t__law_word (gh := y :: gh) TA C F18 B18).more (by omega)⟩
end
/-! ### the facts of the top -/
def dd_is_alphabet : He.DefD := ⟨("is_alphabet", none), "is_alphabet", "is_alphabet", defArgs st_is_alphabet, defBody st_is_alphabet, defScope st_is_alphabet, [], []⟩
def dd_need_letters : He.DefD := ⟨("need_letters", none), "need_letters", "need_letters", defArgs st_need_letters, defBody st_need_letters, defScope st_need_letters, [], []⟩
def dd_is_text : He.DefD := ⟨("is_text", none), "is_text", "is_text", defArgs st_is_text, defBody st_is_text, defScope st_is_text, [], []⟩
def dd_is_node : He.DefD := ⟨("is_node", none), "is_node", "is_node", defArgs st_is_node, defBody st_is_node, defScope st_is_node, [], []⟩
def dd_inner_parts : He.DefD := ⟨("inner_parts", none), "inner_parts", "inner_parts", defArgs st_inner_parts, defBody st_inner_parts, defScope st_inner_parts, [], []⟩
def dd_is_pattern : He.DefD := ⟨("is_pattern", none), "is_pattern", "is_pattern", defArgs st_is_pattern, defBody st_is_pattern, defScope st_is_pattern, [], []⟩
def dd_need_pattern : He.DefD := ⟨("need_pattern", none), "need_pattern", "need_pattern", defArgs st_need_pattern, defBody st_need_pattern, defScope st_need_pattern, [], []⟩
def dd_Matcher____init__ : He.DefD := ⟨("Matcher", some "__init__"), "__init__", "Matcher.__init__", defArgs st_Matcher____init__, defBody st_Matcher____init__, defScope st_Matcher____init__, [], []⟩
def dd_Matcher__ends : He.DefD := ⟨("Matcher", some "ends"), "ends", "Matcher.ends", defArgs st_Matcher__ends, defBody st_Matcher__ends, defScope st_Matcher__ends, [], []⟩
def dd_Matcher__ends_of : He.DefD := ⟨("Matcher", some "ends_of"), "ends_of", "Matcher.ends_of", defArgs st_Matcher__ends_of, defBody st_Matcher__ends_of, defScope st_Matcher__ends_of, [], []⟩
def dd_Matcher__ends_of_star : He.DefD := ⟨("Matcher", some "ends_of_star"), "ends_of_star", "Matcher.ends_of_star", defArgs st_Matcher__ends_of_star, defBody st_Matcher__ends_of_star, defScope st_Matcher__ends_of_star, [], []⟩
def dd_matches : He.DefD := ⟨("matches", none), "matches", "matches", defArgs st_matches, defBody st_matches, defScope st_matches, [], []⟩
def dd__law_begin : He.DefD := ⟨("_law_begin", none), "_law_begin", "_law_begin", defArgs st__law_begin, defBody st__law_begin, defScope st__law_begin, [], []⟩
def dd__law_draw : He.DefD := ⟨("_law_draw", none), "_law_draw", "_law_draw", defArgs st__law_draw, defBody st__law_draw, defScope st__law_draw, [], []⟩
def dd__law_pick : He.DefD := ⟨("_law_pick", none), "_law_pick", "_law_pick", defArgs st__law_pick, defBody st__law_pick, defScope st__law_pick, [], []⟩
def dd__law_texts : He.DefD := ⟨("_law_texts", none), "_law_texts", "_law_texts", defArgs st__law_texts, defBody st__law_texts, defScope st__law_texts, [], []⟩
def dd__law_pattern : He.DefD := ⟨("_law_pattern", none), "_law_pattern", "_law_pattern", defArgs st__law_pattern, defBody st__law_pattern, defScope st__law_pattern, [], []⟩
def dd__law_matches : He.DefD := ⟨("_law_matches", none), "_law_matches", "_law_matches", defArgs st__law_matches, defBody st__law_matches, defScope st__law_matches, [], []⟩
def dd__law_word : He.DefD := ⟨("_law_word", none), "_law_word", "_law_word", defArgs st__law_word, defBody st__law_word, defScope st__law_word, [], []⟩
def dd_law : He.DefD := ⟨("law", none), "law", "law", defArgs st_law, defBody st_law, defScope st_law, [], []⟩
def dds : List He.DefD := [dd_is_alphabet, dd_need_letters, dd_is_text, dd_is_node, dd_inner_parts, dd_is_pattern, dd_need_pattern, dd_Matcher____init__, dd_Matcher__ends, dd_Matcher__ends_of, dd_Matcher__ends_of_star, dd_matches, dd__law_begin, dd__law_draw, dd__law_pick, dd__law_texts, dd__law_pattern, dd__law_matches, dd__law_word, dd_law]
def fas : List He.Fa := [.glo "is_alphabet",
  .glo "need_letters",
  .glo "is_text",
  .glo "is_node",
  .glo "inner_parts",
  .glo "is_pattern",
  .glo "need_pattern",
  .meth "Matcher" "__init__",
  .meth "Matcher" "ends",
  .meth "Matcher" "ends_of",
  .meth "Matcher" "ends_of_star",
  .glo "matches",
  .glo "_law_begin",
  .glo "_law_draw",
  .glo "_law_pick",
  .glo "_law_texts",
  .glo "_law_pattern",
  .glo "_law_matches",
  .glo "_law_word",
  .glo "law",
  .free "all",
  .free "enumerate",
  .free "int",
  .free "isinstance",
  .free "len",
  .free "list",
  .free "max",
  .free "range",
  .free "repr",
  .free "set",
  .free "sorted",
  .free "str",
  .free "tuple",
  .str "ALL_LETTERS" "abcd",
  .int "MOST_DEEP" 15,
  .int "MOST_PARTS" 60,
  .glo "AskError",
  .glo "BadLetters",
  .glo "BadPattern",
  .glo "BadText",
  .glo "Matcher",
  .glo "SIMPLE",
  .glo "SIZES",
  .exc "BadLetters",
  .exc "BadPattern",
  .exc "BadText",
  .cls "Matcher",
  .mkr "Matcher"]
def tbs : List He.Tab := [((fun K => gaS K "SIZES"), ["none", "empty", "letter", "any", "join", "or", "and", "not", "star"])]
def xss : XSP := ⟨[fun K => kvB K 50 (.tup [.str ['n', 'o', 'n', 'e'], .str ['e', 'm', 'p', 't', 'y'], .str ['l', 'e', 't', 't', 'e', 'r'], .str ['a', 'n', 'y']]) (.ref (gaS K "SIMPLE")),
  fun K => gdB K (gaS K "SIZES") kv_SIZES,
  fun K => exmB K excN "AskError" ["AskError", "BadLetters", "BadText", "BadPattern"],
  fun K => tyTB K insN excN (.ref (gaS K "BadPattern")) ["BadPattern"],
  fun K => tyTB K insN excN (.ref (gaS K "BadText")) ["BadText"],
  fun K => tyTB K insN excN (.type "str") ["str"],
  fun K => tyTB K insN excN (.type "tuple") ["tuple"],
  fun K => excAllB K excN,
  fun K => sysB K,
  fun K => naAllB K insN "known",
  fun K => naAllB K insN "text",
  fun K => xfAllB K excN "known",
  fun K => xfAllB K excN "text",
  fun K => insAllB K insN,
  fun K => mkB K (gaS K "law"),
  fun K => decide (mkN.map fun m => pOf K (gaS K m)).Nodup],
  []⟩
theorem facts {w : World} {K : PySem.W.Frag} {h : Heap} {mg : Str → Option Value} (X : K.In h) (G : h.Ns mainGlobals mg) (c : SaysM xss fas dds tbs w K) (gh : List GF) : Tx w K mg gh where
    g_is_alphabet := He.glo_ok X G (c.kit.fact 0 (f := .glo "is_alphabet") rfl)
    k_is_alphabet := (c.kit.def_ 0 (d := dd_is_alphabet) rfl).choose_spec.kp
    g_need_letters := He.glo_ok X G (c.kit.fact 1 (f := .glo "need_letters") rfl)
    k_need_letters := (c.kit.def_ 1 (d := dd_need_letters) rfl).choose_spec.kp
    g_is_text := He.glo_ok X G (c.kit.fact 2 (f := .glo "is_text") rfl)
    k_is_text := (c.kit.def_ 2 (d := dd_is_text) rfl).choose_spec.kp
    g_is_node := He.glo_ok X G (c.kit.fact 3 (f := .glo "is_node") rfl)
    k_is_node := (c.kit.def_ 3 (d := dd_is_node) rfl).choose_spec.kp
    g_inner_parts := He.glo_ok X G (c.kit.fact 4 (f := .glo "inner_parts") rfl)
    k_inner_parts := (c.kit.def_ 4 (d := dd_inner_parts) rfl).choose_spec.kp
    g_is_pattern := He.glo_ok X G (c.kit.fact 5 (f := .glo "is_pattern") rfl)
    k_is_pattern := (c.kit.def_ 5 (d := dd_is_pattern) rfl).choose_spec.kp
    g_need_pattern := He.glo_ok X G (c.kit.fact 6 (f := .glo "need_pattern") rfl)
    k_need_pattern := (c.kit.def_ 6 (d := dd_need_pattern) rfl).choose_spec.kp
    mt_Matcher____init__ := He.meth_ok (c.kit.fact 7 (f := .meth "Matcher" "__init__") rfl)
    mt_Matcher__ends := He.meth_ok (c.kit.fact 8 (f := .meth "Matcher" "ends") rfl)
    mt_Matcher__ends_of := He.meth_ok (c.kit.fact 9 (f := .meth "Matcher" "ends_of") rfl)
    mt_Matcher__ends_of_star := He.meth_ok (c.kit.fact 10 (f := .meth "Matcher" "ends_of_star") rfl)
    g_matches := He.glo_ok X G (c.kit.fact 11 (f := .glo "matches") rfl)
    k_matches := (c.kit.def_ 11 (d := dd_matches) rfl).choose_spec.kp
    g__law_begin := He.glo_ok X G (c.kit.fact 12 (f := .glo "_law_begin") rfl)
    k__law_begin := (c.kit.def_ 12 (d := dd__law_begin) rfl).choose_spec.kp
    g__law_draw := He.glo_ok X G (c.kit.fact 13 (f := .glo "_law_draw") rfl)
    k__law_draw := (c.kit.def_ 13 (d := dd__law_draw) rfl).choose_spec.kp
    g__law_pick := He.glo_ok X G (c.kit.fact 14 (f := .glo "_law_pick") rfl)
    k__law_pick := (c.kit.def_ 14 (d := dd__law_pick) rfl).choose_spec.kp
    g__law_texts := He.glo_ok X G (c.kit.fact 15 (f := .glo "_law_texts") rfl)
    k__law_texts := (c.kit.def_ 15 (d := dd__law_texts) rfl).choose_spec.kp
    g__law_pattern := He.glo_ok X G (c.kit.fact 16 (f := .glo "_law_pattern") rfl)
    k__law_pattern := (c.kit.def_ 16 (d := dd__law_pattern) rfl).choose_spec.kp
    g__law_matches := He.glo_ok X G (c.kit.fact 17 (f := .glo "_law_matches") rfl)
    k__law_matches := (c.kit.def_ 17 (d := dd__law_matches) rfl).choose_spec.kp
    g__law_word := He.glo_ok X G (c.kit.fact 18 (f := .glo "_law_word") rfl)
    k__law_word := (c.kit.def_ 18 (d := dd__law_word) rfl).choose_spec.kp
    g_law := He.glo_ok X G (c.kit.fact 19 (f := .glo "law") rfl)
    k_law := (c.kit.def_ 19 (d := dd_law) rfl).choose_spec.kp
    n_all := He.free_ok X G (c.kit.fact 20 (f := .free "all") rfl)
    n_enumerate := He.free_ok X G (c.kit.fact 21 (f := .free "enumerate") rfl)
    n_int := He.free_ok X G (c.kit.fact 22 (f := .free "int") rfl)
    n_isinstance := He.free_ok X G (c.kit.fact 23 (f := .free "isinstance") rfl)
    n_len := He.free_ok X G (c.kit.fact 24 (f := .free "len") rfl)
    n_list := He.free_ok X G (c.kit.fact 25 (f := .free "list") rfl)
    n_max := He.free_ok X G (c.kit.fact 26 (f := .free "max") rfl)
    n_range := He.free_ok X G (c.kit.fact 27 (f := .free "range") rfl)
    n_repr := He.free_ok X G (c.kit.fact 28 (f := .free "repr") rfl)
    n_set := He.free_ok X G (c.kit.fact 29 (f := .free "set") rfl)
    n_sorted := He.free_ok X G (c.kit.fact 30 (f := .free "sorted") rfl)
    n_str := He.free_ok X G (c.kit.fact 31 (f := .free "str") rfl)
    n_tuple := He.free_ok X G (c.kit.fact 32 (f := .free "tuple") rfl)
    i_ALL_LETTERS := He.str_ok X G (c.kit.fact 33 (f := .str "ALL_LETTERS" "abcd") rfl)
    i_MOST_DEEP := He.int_ok X G (c.kit.fact 34 (f := .int "MOST_DEEP" 15) rfl)
    i_MOST_PARTS := He.int_ok X G (c.kit.fact 35 (f := .int "MOST_PARTS" 60) rfl)
    x_AskError := He.glo_ok X G (c.kit.fact 36 (f := .glo "AskError") rfl)
    x_BadLetters := He.glo_ok X G (c.kit.fact 37 (f := .glo "BadLetters") rfl)
    x_BadPattern := He.glo_ok X G (c.kit.fact 38 (f := .glo "BadPattern") rfl)
    x_BadText := He.glo_ok X G (c.kit.fact 39 (f := .glo "BadText") rfl)
    x_Matcher := He.glo_ok X G (c.kit.fact 40 (f := .glo "Matcher") rfl)
    x_SIMPLE := He.glo_ok X G (c.kit.fact 41 (f := .glo "SIMPLE") rfl)
    x_SIZES := He.glo_ok X G (c.kit.fact 42 (f := .glo "SIZES") rfl)
    t_SIMPLE := (c.ex 0 rfl)
    d_SIZES := ⟨c.tab 0 rfl, c.ex 1 rfl⟩
    c_BadLetters := ⟨by decide, rfl⟩
    e_BadLetters := He.exc_ok (c.kit.fact 43 (f := .exc "BadLetters") rfl)
    c_BadPattern := ⟨by decide, rfl⟩
    e_BadPattern := He.exc_ok (c.kit.fact 44 (f := .exc "BadPattern") rfl)
    c_BadText := ⟨by decide, rfl⟩
    e_BadText := He.exc_ok (c.kit.fact 45 (f := .exc "BadText") rfl)
    m_AskError := exmB_ok (c.ex 2 rfl)
    ty_BadPattern := tyTB_ok (c.ex 3 rfl)
    ty_BadText := tyTB_ok (c.ex 4 rfl)
    ty_str := tyTB_ok (c.ex 5 rfl)
    ty_tuple := tyTB_ok (c.ex 6 rfl)
    hE := excAllB_ok (c.ex 7 rfl)
    sys := sysB_ok (c.ex 8 rfl)
    cls_Matcher := He.cls_ok (c.kit.fact 46 (f := .cls "Matcher") rfl)
    ic_Matcher := ⟨by decide, rfl⟩
    mk_Matcher := He.mkr_ok (c.kit.fact 47 (f := .mkr "Matcher") rfl)
    na_known := naAllB_ok (c.ex 9 rfl)
    na_text := naAllB_ok (c.ex 10 rfl)
    xf_known := xfAllB_ok (c.ex 11 rfl)
    xf_text := xfAllB_ok (c.ex 12 rfl)
    hI := insAllB_ok (c.ex 13 rfl)
    mkb_law := (c.ex 14 rfl)
    tnd := of_decide_eq_true (c.ex 15 rfl)
abbrev LVL : Nat := 50
theorem told {P : Program} {w : World} {K : PySem.W.Frag} {h : Heap} {mg : Str → Option Value} {fl : Addr} (X : K.In h) (G : h.Ns mainGlobals mg) (hl : mg ("law" : Str) = some (.ref fl)) (c : SaysM xss fas dds tbs w K) :
    ∃ fd : FuncData, (∀ (s : Shared) (u : Value), BindsTo s fd ⟨[u], []⟩ [("_law_script", u)]) ∧ (∀ m ∈ mkN, mkB K (gaS K m) = true) ∧ ∀ base : Heap, K.In base → base.Ns mainGlobals mg → (∀ m : String, m ∈ mkN → LamX.TabB base mg (cOf K (gaS K m)) (pOf K (gaS K m))) → FnG P w K mg base (4 * LVL + 2) fl fd ["_law_script"] (spI K (CT w K []) (callN tab LVL) (.f "law")) := by
  have TA := fun gh => facts X G c gh
  have T := TA []
  obtain ⟨fd0, D0⟩ := c.kit.def_ 0 (d := dd_is_alphabet) rfl
  have F0 : Fun K "is_alphabet" "is_alphabet" st_is_alphabet (gaS K "is_alphabet") fd0 := fun_of D0
  have B0 : L2.Binds K fd0 ["value"] [] := F0.binds fun _ _ _ _ _ _ us hl => match us, hl with | [_], _ => rfl
  obtain ⟨fd1, D1⟩ := c.kit.def_ 1 (d := dd_need_letters) rfl
  have F1 : Fun K "need_letters" "need_letters" st_need_letters (gaS K "need_letters") fd1 := fun_of D1
  have B1 : L2.Binds K fd1 ["value"] [] := F1.binds fun _ _ _ _ _ _ us hl => match us, hl with | [_], _ => rfl
  obtain ⟨fd2, D2⟩ := c.kit.def_ 2 (d := dd_is_text) rfl
  have F2 : Fun K "is_text" "is_text" st_is_text (gaS K "is_text") fd2 := fun_of D2
  have B2 : L2.Binds K fd2 ["letters", "value"] [] := F2.binds fun _ _ _ _ _ _ us hl => match us, hl with | [_, _], _ => rfl
  obtain ⟨fd3, D3⟩ := c.kit.def_ 3 (d := dd_is_node) rfl
  have F3 : Fun K "is_node" "is_node" st_is_node (gaS K "is_node") fd3 := fun_of D3
  have B3 : L2.Binds K fd3 ["letters", "value"] [] := F3.binds fun _ _ _ _ _ _ us hl => match us, hl with | [_, _], _ => rfl
  obtain ⟨fd4, D4⟩ := c.kit.def_ 4 (d := dd_inner_parts) rfl
  have F4 : Fun K "inner_parts" "inner_parts" st_inner_parts (gaS K "inner_parts") fd4 := fun_of D4
  have B4 : L2.Binds K fd4 ["pattern"] [] := F4.binds fun _ _ _ _ _ _ us hl => match us, hl with | [_], _ => rfl
  obtain ⟨fd5, D5⟩ := c.kit.def_ 5 (d := dd_is_pattern) rfl
  have F5 : Fun K "is_pattern" "is_pattern" st_is_pattern (gaS K "is_pattern") fd5 := fun_of D5
  have B5 : L2.Binds K fd5 ["letters", "value"] [] := F5.binds fun _ _ _ _ _ _ us hl => match us, hl with | [_, _], _ => rfl
  obtain ⟨fd6, D6⟩ := c.kit.def_ 6 (d := dd_need_pattern) rfl
  have F6 : Fun K "need_pattern" "need_pattern" st_need_pattern (gaS K "need_pattern") fd6 := fun_of D6
  have B6 : L2.Binds K fd6 ["letters", "value"] [] := F6.binds fun _ _ _ _ _ _ us hl => match us, hl with | [_, _], _ => rfl
  obtain ⟨fd7, D7⟩ := c.kit.def_ 7 (d := dd_Matcher____init__) rfl
  have F7 : Fun K "__init__" "Matcher.__init__" st_Matcher____init__ (He.ma K (gaS K "Matcher") (SO "__init__")) fd7 := fun_of D7
  have B7 : L2.Binds K fd7 ["self", "text"] [] := F7.binds fun _ _ _ _ _ _ us hl => match us, hl with | [_, _], _ => rfl
  obtain ⟨fd8, D8⟩ := c.kit.def_ 8 (d := dd_Matcher__ends) rfl
  have F8 : Fun K "ends" "Matcher.ends" st_Matcher__ends (He.ma K (gaS K "Matcher") (SO "ends")) fd8 := fun_of D8
  have B8 : L2.Binds K fd8 ["self", "pattern", "begin"] [] := F8.binds fun _ _ _ _ _ _ us hl => match us, hl with | [_, _, _], _ => rfl
  obtain ⟨fd9, D9⟩ := c.kit.def_ 9 (d := dd_Matcher__ends_of) rfl
  have F9 : Fun K "ends_of" "Matcher.ends_of" st_Matcher__ends_of (He.ma K (gaS K "Matcher") (SO "ends_of")) fd9 := fun_of D9
  have B9 : L2.Binds K fd9 ["self", "pattern", "begin"] [] := F9.binds fun _ _ _ _ _ _ us hl => match us, hl with | [_, _, _], _ => rfl
  obtain ⟨fd10, D10⟩ := c.kit.def_ 10 (d := dd_Matcher__ends_of_star) rfl
  have F10 : Fun K "ends_of_star" "Matcher.ends_of_star" st_Matcher__ends_of_star (He.ma K (gaS K "Matcher") (SO "ends_of_star")) fd10 := fun_of D10
  have B10 : L2.Binds K fd10 ["self", "inner", "begin"] [] := F10.binds fun _ _ _ _ _ _ us hl => match us, hl with | [_, _, _], _ => rfl
  obtain ⟨fd11, D11⟩ := c.kit.def_ 11 (d := dd_matches) rfl
  have F11 : Fun K "matches" "matches" st_matches (gaS K "matches") fd11 := fun_of D11
  have B11 : L2.Binds K fd11 ["letters", "pattern", "text"] [] := F11.binds fun _ _ _ _ _ _ us hl => match us, hl with | [_, _, _], _ => rfl
  obtain ⟨fd12, D12⟩ := c.kit.def_ 12 (d := dd__law_begin) rfl
  have F12 : Fun K "_law_begin" "_law_begin" st__law_begin (gaS K "_law_begin") fd12 := fun_of D12
  have B12 : L2.Binds K fd12 ["_law_cell", "_law_turn"] [] := F12.binds fun _ _ _ _ _ _ us hl => match us, hl with | [_, _], _ => rfl
  obtain ⟨fd13, D13⟩ := c.kit.def_ 13 (d := dd__law_draw) rfl
  have F13 : Fun K "_law_draw" "_law_draw" st__law_draw (gaS K "_law_draw") fd13 := fun_of D13
  have B13 : L2.Binds K fd13 ["_law_state", "_law_size"] [] := F13.binds fun _ _ _ _ _ _ us hl => match us, hl with | [_, _], _ => rfl
  obtain ⟨fd14, D14⟩ := c.kit.def_ 14 (d := dd__law_pick) rfl
  have F14 : Fun K "_law_pick" "_law_pick" st__law_pick (gaS K "_law_pick") fd14 := fun_of D14
  have B14 : L2.Binds K fd14 ["_law_state", "_law_items"] [] := F14.binds fun _ _ _ _ _ _ us hl => match us, hl with | [_, _], _ => rfl
  obtain ⟨fd15, D15⟩ := c.kit.def_ 15 (d := dd__law_texts) rfl
  have F15 : Fun K "_law_texts" "_law_texts" st__law_texts (gaS K "_law_texts") fd15 := fun_of D15
  have B15 : L2.Binds K fd15 ["_law_abc", "_law_longest"] [] := F15.binds fun _ _ _ _ _ _ us hl => match us, hl with | [_, _], _ => rfl
  obtain ⟨fd16, D16⟩ := c.kit.def_ 16 (d := dd__law_pattern) rfl
  have F16 : Fun K "_law_pattern" "_law_pattern" st__law_pattern (gaS K "_law_pattern") fd16 := fun_of D16
  have B16 : L2.Binds K fd16 ["_law_state", "_law_abc", "_law_deep"] [] := F16.binds fun _ _ _ _ _ _ us hl => match us, hl with | [_, _, _], _ => rfl
  obtain ⟨fd17, D17⟩ := c.kit.def_ 17 (d := dd__law_matches) rfl
  have F17 : Fun K "_law_matches" "_law_matches" st__law_matches (gaS K "_law_matches") fd17 := fun_of D17
  have B17 : L2.Binds K fd17 ["_law_form", "_law_word_here"] [] := F17.binds fun _ _ _ _ _ _ us hl => match us, hl with | [_, _], _ => rfl
  obtain ⟨fd18, D18⟩ := c.kit.def_ 18 (d := dd__law_word) rfl
  have F18 : Fun K "_law_word" "_law_word" st__law_word (gaS K "_law_word") fd18 := fun_of D18
  have B18 : L2.Binds K fd18 ["_law_work"] [] := F18.binds fun _ _ _ _ _ _ us hl => match us, hl with | [_], _ => rfl
  obtain ⟨fd19, D19⟩ := c.kit.def_ 19 (d := dd_law) rfl
  have F19 : Fun K "law" "law" st_law (gaS K "law") fd19 := fun_of D19
  have B19 : L2.Binds K fd19 ["_law_script"] [] := F19.binds fun _ _ _ _ _ _ us hl => match us, hl with | [_], _ => rfl
  have KB0 : KBi fd11 ["letters", "pattern", "text"] ["text", "pattern", "letters"] [2, 1, 0] := kbi_of F11 fun _ _ _ _ _ _ ws us hl e => match ws, hl, e with | [_, _, _], _, e => by cases e; rfl
  have e := hl.symm.trans T.g_law
  cases e
  refine ⟨fd19, fun s u => ?_, fun m hm => ?_, fun base _ _ TB => ?_⟩
  · obtain ⟨oc, od, dV, kV, doc, pm, an, cdv, ct, osl, e, lk, hcd, hD, _⟩ := D19.ex
    rcases hD with ⟨_, rfl⟩ | ⟨z, _⟩
    · subst e
      exact .of_eq rfl
    · exact absurd rfl z
  · simp only [mkN, List.mem_cons, List.not_mem_nil, or_false] at hm
    rcases hm with rfl
    · exact T.mkb_law
  · have C := cals (P := P) (w := w) (base := base) TA TB F0 B0 F1 B1 F2 B2 F3 B3 F4 B4 F5 B5 F6 B6 F7 B7 F8 B8 F9 B9 F10 B10 F11 B11 F12 B12 F13 B13 F14 B14 F15 B15 F16 B16 F17 B17 F18 B18 F19 B19 KB0 (LVL - 1)
    have q := f_law (gh := []) TA C TB F19
    have e : spI K (CT w K []) (callN tab LVL) (.f "law") = spB K (CT w K []) (callN tab (LVL - 1)) c_law := rfl
    rw [e]
    exact q
/-! ### the run of the top -/
abbrev R0 : PySem.W.OpenRow := PySem.W.OpenLaw.row PySem.Challenge.rw_smallasks_k14_matches_by_splitting
abbrev hook : PySem.W.Hook := hookL 5 xss fas dds tbs mkN
def ob (s : PySem.W.SharedT) : ObsL := obsLG 5 xss fas dds tbs mkN (HandSHeadRun.getT s)
theorem ob_eq (s : PySem.W.SharedT) : ob s = hook.obs s.abs := obsLG_eq (HandSHeadRun.getT_eq s)
def loose : List Str := (["AskError", "BadLetters", "BadText", "BadPattern", "ALL_LETTERS", "is_alphabet", "need_letters", "is_text", "SIZES", "SIMPLE", "MOST_PARTS", "MOST_DEEP", "is_node", "inner_parts", "is_pattern", "need_pattern", "Matcher", "matches", "_law_begin", "_law_draw", "_law_pick", "_law_texts", "_law_pattern", "_law_matches", "_law_word"] : List Str)
/-- a dict is written at the top: the world tells once which way it goes -/
theorem run (w : World) : HandSHeadRun.RunEq R0 (PySem.W.view R0.prog [29]) hook ob 9000 loose w :=
  PySem.W.byRow2 "special-get-raises" (P := fun w => HandSHeadRun.RunEq R0 (PySem.W.view R0.prog [29]) hook ob 9000 loose w) (fun w os => by kernel_rfl) (fun w os => by kernel_rfl) w
end Mk14
open PySem PySem.W PySem.Calls PyProof.Rows in
theorem Mk14.holds_of (ok : ∀ ns : List Int, ns.length ≤ 63 → ∃ h', Mi.callN Mk14.tab Mk14.LVL (.f "law") [.ref 0] [.frz (ns.map .int)] = .ok (.bl true) h') : PySem.Challenge.rw_smallasks_k14_matches_by_splitting.Holds := by
  w_on; o_law
  refine HandSHeadRun.head_any (r := OpenLaw.row PySem.Challenge.rw_smallasks_k14_matches_by_splitting) (q := view (OpenLaw.row PySem.Challenge.rw_smallasks_k14_matches_by_splitting).prog [29]) (H := Mk14.hook) (ob := Mk14.ob) (M := 9000) (loose := Mk14.loose) (d := HandSHeadRun.topDef (OpenLaw.row PySem.Challenge.rw_smallasks_k14_matches_by_splitting).prog 29) (kwd := []) Mk14.ob_eq
    (by kernel_rfl) (fun s => by kernel_rfl) Mk14.run (by kernel_rfl) (by kernel_rfl) (by kernel_rfl) (by rfl) (by first | assumption | decide +kernel) (by decide +kernel) ⟨rfl, rfl, rfl, rfl, rfl, by decide +kernel⟩ ?hw ?hc
  case hw => w_witness2
  case hc =>
    refine Mi.walkL (l := PySem.Challenge.rw_smallasks_k14_matches_by_splitting) (k := 4 * Mk14.LVL + 2) (x := "_law_script") (cl := Mi.callN Mk14.tab Mk14.LVL) rfl (by kernel_rfl) ⟨rfl, by decide, by decide⟩ ?F ok
    intro w mg fa h Y G hmg0
    obtain ⟨K, inK, c, hT⟩ := Y
    have hmg : mg ("law" : PySem.Str) = some (.ref fa) := by
      have e : (HandSHeadRun.topDef (OpenLaw.row PySem.Challenge.rw_smallasks_k14_matches_by_splitting).prog 29).name = ("law" : PySem.Str) := by kernel_rfl
      rw [← e]
      exact hmg0
    obtain ⟨fd, bd, mk, hF⟩ := Mk14.told (P := (PySem.Challenge.rw_smallasks_k14_matches_by_splitting).prog) (w := w) inK G hmg c
    refine ⟨K, fd, Mk14.CT w K [], Mk14.mkN.map fun m => (Mi.cOf K (Mi.gaS K m), Mi.pOf K (Mi.gaS K m)), rfl, ?_, inK, ?_, ?_, ?_, bd, fun base i g TB => hF base i g fun m hm => TB _ (List.mem_map.mpr ⟨m, hm, rfl⟩)⟩
    · intro p hp
      simp only [List.mem_cons, List.not_mem_nil, or_false] at hp
      rcases hp with rfl
      · exact List.mem_map.mpr ⟨_, List.mem_map.mpr ⟨"law", by decide, rfl⟩, rfl⟩
    · intro p hp
      obtain ⟨m, hm, rfl⟩ := List.mem_map.mp hp
      exact hT m hm
    · intro p hp
      obtain ⟨m, hm, rfl⟩ := List.mem_map.mp hp
      exact Mi.mkB_n (mk m hm)
    · intro p hp
      obtain ⟨m, hm, rfl⟩ := List.mem_map.mp hp
      exact PySem.W.codeHd_of_K inK (Mi.mkB_h (mk m hm))
set_option linter.all false
set_option maxRecDepth 10000
namespace Mi
theorem get_set {h : PH} {p : Nat} {o u : PO} (e : h[p]? = some u) : (h.set p o)[p]? = some o := by
  rw [List.getElem?_set_self (List.getElem?_eq_some_iff.mp e).1]
theorem set_set {h : PH} {p : Nat} {o u : PO} : (h.set p o).set p u = h.set p u := List.set_set ..
def drawFn : Fn := ⟨2, 1, [.ite (.cmp .gt (.idx (.v 0) (.k (.int 0))) (.k (.int 0))) [.asg (.nm 2) (.bop .mod (.blt "int" [.idx (.v 0) (.k (.int 0))]) (.v 1)),
  .seti (.v 0) (.k (.int 0)) (.bop .fdiv (.idx (.v 0) (.k (.int 0))) (.v 1)),
  .ret (.v 2)] [],
  .seti (.v 0) (.k (.int 2)) (.bop .add (.idx (.v 0) (.k (.int 2))) (.k (.int 1))),
  .asg (.nm 2) (.bop .add (.bop .mod (.blt "int" [.idx (.v 0) (.k (.int 1))]) (.k (.int 2147483629))) (.bop .mul (.k (.int 104729)) (.idx (.v 0) (.k (.int 2))))),
  .asg (.nm 2) (.bop .mul (.v 2) (.bop .add (.bop .add (.bop .mod (.blt "int" [.idx (.v 0) (.k (.int 1))]) (.k (.int 2147483587))) (.bop .mul (.bop .mul (.k (.int 7919)) (.idx (.v 0) (.k (.int 2)))) (.idx (.v 0) (.k (.int 2))))) (.k (.int 11)))),
  .ret (.bop .mod (.blt "int" [.bop .fdiv (.bop .mod (.blt "int" [.bop .pow (.v 2) (.k (.int 3))]) (.k (.int 2147483647))) (.k (.int 11))]) (.v 1))]⟩
/-- the law's state at p -/
def StAt (h : PH) (p : Nat) (a b c : Int) : Prop := h[p]? = some (.lst [.int a, .int b, .int c])
theorem log_le {x : Nat} {k : Nat} (h : x < 2 ^ k) : x.log2 ≤ k := by
  by_cases hx : x = 0
  · subst hx; simp
  · have := Nat.log2_self_le hx
    have h2 : 2 ^ x.log2 < 2 ^ k := Nat.lt_of_le_of_lt this h
    exact Nat.le_of_lt ((Nat.pow_lt_pow_iff_right (by decide)).mp h2)
theorem mulOk_of {i j : Int} {a b : Nat} (hi : i.natAbs < 2 ^ a) (hj : j.natAbs < 2 ^ b) (h : a + b < 1000000) : mulOk i j = true := by
  unfold mulOk
  have := log_le hi
  have := log_le hj
  exact decide_eq_true (by omega)
theorem draw_one {cl : Cl} {p : Nat} {a b c size : Int} {h : PH} (hp : StAt h p a b c) (ha : 0 < a) (hs : 0 < size) (hs2 : size < 2 ^ 60) :
    drawFn.run cl [.ref p, .int size] h = .ok (.int (a % size)) (h.set p (.lst [.int (a / size), .int b, .int c])) := by
  have hlog : size.natAbs.log2 < 9000 := Nat.lt_of_le_of_lt (log_le (k := 60) (by omega)) (by decide)
  unfold StAt at hp
  simp [Fn.run, drawFn, exs, ex, tst, ev, evs, hp, idxV, atI, ixN, oneR, cmpV, truR, tru, ha, bltV, bopV, hs, bindT, setiV, hlog, endR]
theorem natAbs_lt {i : Int} {n : Nat} (h0 : 0 ≤ i) (h : i < (n : Int)) : i.natAbs < n := by omega
theorem draw_two {cl : Cl} {p : Nat} {a b c size : Int} {h : PH} (hp : StAt h p a b c) (ha : ¬ 0 < a) (hs : 0 < size) (hc : 0 ≤ c) (hc2 : c < 2 ^ 60) :
    ∃ r, 0 ≤ r ∧ r < size ∧ drawFn.run cl [.ref p, .int size] h = .ok (.int r) (h.set p (.lst [.int a, .int b, .int (c + 1)])) := by
  have hp2 := get_set (o := .lst [.int a, .int b, .int (c + 1)]) hp
  unfold StAt at hp
  generalize hx : b % 2147483629 + 104729 * (c + 1) = x
  generalize hy : b % 2147483587 + 7919 * (c + 1) * (c + 1) + 11 = y
  have hb1 : 0 ≤ b % 2147483629 ∧ b % 2147483629 < 2147483629 := ⟨Int.emod_nonneg _ (by decide), Int.emod_lt_of_pos _ (by decide)⟩
  have hb2 : 0 ≤ b % 2147483587 ∧ b % 2147483587 < 2147483587 := ⟨Int.emod_nonneg _ (by decide), Int.emod_lt_of_pos _ (by decide)⟩
  have hx1 : 0 ≤ x ∧ x < 2 ^ 90 := by omega
  have hcc : 0 ≤ (c + 1) * (c + 1) ∧ (c + 1) * (c + 1) ≤ 2 ^ 60 * 2 ^ 60 := ⟨Int.mul_nonneg (by omega) (by omega), Int.mul_le_mul (by omega) (by omega) (by omega) (by decide)⟩
  have h79 : 7919 * (c + 1) * (c + 1) = 7919 * ((c + 1) * (c + 1)) := Int.mul_assoc ..
  have hy1 : 0 ≤ y ∧ y < 2 ^ 140 := by rw [h79] at hy; omega
  have hxy : 0 ≤ x * y ∧ x * y ≤ 2 ^ 90 * 2 ^ 140 := ⟨Int.mul_nonneg hx1.1 hy1.1, Int.mul_le_mul (by omega) (by omega) hy1.1 (by decide)⟩
  have m1 : mulOk 104729 (c + 1) = true := mulOk_of (a := 20) (b := 64) (by decide) (natAbs_lt (by omega) (by omega)) (by decide)
  have m2 : mulOk 7919 (c + 1) = true := mulOk_of (a := 20) (b := 64) (by decide) (natAbs_lt (by omega) (by omega)) (by decide)
  have m3 : mulOk (7919 * (c + 1)) (c + 1) = true := mulOk_of (a := 84) (b := 64) (natAbs_lt (by omega) (by omega)) (natAbs_lt (by omega) (by omega)) (by decide)
  have m4 : mulOk x y = true := mulOk_of (a := 90) (b := 140) (natAbs_lt hx1.1 (by omega)) (natAbs_lt hy1.1 (by omega)) (by decide)
  have pw : ((x * y).natAbs.log2 + 1) * 3 ≤ 134217728 := by
    have := log_le (x := (x * y).natAbs) (k := 231) (natAbs_lt hxy.1 (by omega))
    omega
  have l11 : Nat.log2 11 < 9000 := Nat.lt_of_le_of_lt (log_le (k := 4) (by decide)) (by decide)
  refine ⟨((x * y) ^ 3 % 2147483647 / 11) % size, Int.emod_nonneg _ (by omega), Int.emod_lt_of_pos _ hs, ?_⟩
  simp [Fn.run, drawFn, exs, ex, tst, ev, evs, hp, hp2, idxV, atI, ixN, oneR, cmpV, truR, tru, ha, bltV, bopV, hs, bindT, setiV, endR, m1, m2, m3, hx, hy, m4, pw, l11]
/-- a state at p, of at most m draws -/
def Ok (h : PH) (p m : Nat) : Prop := ∃ a b c : Int, StAt h p a b c ∧ 0 ≤ a ∧ 0 ≤ c ∧ c ≤ m
/-- all but p stays -/
def Kp (p : Nat) (h h' : PH) : Prop := ∀ (i : Nat) (o : PO), h[i]? = some o → i ≠ p → h'[i]? = some o
theorem Ok.more {h : PH} {p m n : Nat} (o : Ok h p m) (l : m ≤ n) : Ok h p n := by
  obtain ⟨a, b, c, h1, h2, h3, h4⟩ := o
  exact ⟨a, b, c, h1, h2, h3, by omega⟩
theorem Ok.lt {h : PH} {p m : Nat} (o : Ok h p m) : p < h.length := by
  obtain ⟨a, b, c, h1, _⟩ := o
  exact (List.getElem?_eq_some_iff.mp h1).1
theorem Kp.refl {p : Nat} {h : PH} : Kp p h h := fun _ _ e _ => e
theorem Kp.trans {p : Nat} {h h1 h2 : PH} (a : Kp p h h1) (b : Kp p h1 h2) : Kp p h h2 := fun i o e n => b i o (a i o e n) n
theorem Kp.set {p : Nat} {h : PH} {o : PO} : Kp p h (h.set p o) := fun i u e n => by
  rw [List.getElem?_set_ne (fun z => n z.symm)]
  exact e
theorem Kp.app {p : Nat} {h g : PH} : Kp p h (h ++ g) := fun i u e n => by
  rw [List.getElem?_append_left (List.getElem?_eq_some_iff.mp e).1]
  exact e
theorem Ok.app {p m : Nat} {h g : PH} (o : Ok h p m) : Ok (h ++ g) p m := by
  obtain ⟨a, b, c, h1, h2⟩ := o
  refine ⟨a, b, c, ?_, h2⟩
  unfold StAt
  rw [List.getElem?_append_left (List.getElem?_eq_some_iff.mp h1).1]
  exact h1
theorem draw_ok {cl : Cl} {p m : Nat} {size : Int} {h : PH} (o : Ok h p m) (hm : m < 2 ^ 60) (hs : 0 < size) (hs2 : size < 2 ^ 60) :
    ∃ r h', 0 ≤ r ∧ r < size ∧ drawFn.run cl [.ref p, .int size] h = .ok (.int r) h' ∧ Ok h' p (m + 1) ∧ Kp p h h' ∧ h'.length = h.length := by
  obtain ⟨a, b, c, h1, h2, h3, h4⟩ := o
  by_cases ha : 0 < a
  · exact ⟨a % size, _, Int.emod_nonneg _ (by omega), Int.emod_lt_of_pos _ hs, draw_one h1 ha hs hs2, ⟨_, b, c, get_set h1, Int.ediv_nonneg h2 (by omega), h3, by omega⟩, Kp.set, List.length_set⟩
  · obtain ⟨r, r1, r2, e⟩ := draw_two (cl := cl) h1 ha hs h3 (by omega)
    exact ⟨r, _, r1, r2, e, ⟨a, b, c + 1, get_set h1, h2, by omega, by omega⟩, Kp.set, List.length_set⟩
theorem run_of {cl : Cl} {f : Fn} {vs : List PV} {h : PH} (hl : vs.length = f.np) : f.run cl vs h = endR (exs cl f.body (vs.map some ++ List.replicate f.nl none) h) := by
  unfold Fn.run
  rw [if_pos hl]
theorem get_new {h : PH} {o : PO} : (h ++ [o])[h.length]? = some o := by simp
def beginFn : Fn := ⟨2, 0, [.ret (.lst [.blt "max" [.k (.int 0), .bop .sub (.v 0) (.bop .pow (.k (.int 10)) (.k (.int 18)))], .bop .add (.v 0) (.bop .mul (.k (.int 977)) (.v 1)), .k (.int 0)])]⟩
theorem begin_ok {cl : Cl} {x : Int} {t : Nat} {h : PH} (ht : t < 100) : ∃ h', beginFn.run cl [.int x, .int t] h = .ok (.ref h.length) h' ∧ Ok h' h.length 0 ∧ Kp h.length h h' := by
  have m1 : mulOk 977 (t : Int) = true := mulOk_of (a := 10) (b := 7) (by decide) (by omega) (by decide)
  have l1 : (Nat.log2 10 + 1) * 18 ≤ 134217728 := by
    have := log_le (x := 10) (k := 4) (by decide)
    omega
  refine ⟨h ++ [PO.lst [PV.int (if x - 10 ^ 18 > 0 then x - 10 ^ 18 else 0), PV.int (x + 977 * t), PV.int 0]], ?_, ⟨(if x - 10 ^ 18 > 0 then x - 10 ^ 18 else 0), x + 977 * t, 0, (get_new : (h ++ [PO.lst [PV.int (if x - 10 ^ 18 > 0 then x - 10 ^ 18 else 0), PV.int (x + 977 * t), PV.int 0]])[h.length]? = _), by split <;> omega, Int.le_refl _, by omega⟩, Kp.app⟩
  simp [Fn.run, beginFn, exs, ex, ev, evs, bltV, bopV, m1, l1, endR, szl]
theorem ixN_of {n : Nat} {r : Int} (h0 : 0 ≤ r) (h1 : r < n) : ixN n r = some r.toNat := by
  unfold ixN
  rw [if_pos h0, if_pos h1]
end Mi
set_option linter.all false
set_option maxRecDepth 10000
namespace Mi
def forStep (cl : Cl) (t : T) (body : List S) : PV → Env → PH → R Fl := fun x ρ1 h2 => match bindT h2 t x ρ1 with
  | some ρ2 => exs cl body ρ2 h2
  | none => .bad
theorem forStep_nm {cl : Cl} {i : Nat} {body : List S} {x : PV} {ρ : Env} {h : PH} : forStep cl (.nm i) body x ρ h = exs cl body (ρ.set i (some x)) h := by
  simp [forStep, bindT]
def lcStep (cl : Cl) (elt : E) (t : T) (cs : List E) (ρ0 : Env) : PV → PH → R (Option PV) := fun x h2 => match bindT h2 t x ρ0 with
  | some ρ1 => (evc cl cs ρ1 h2).bind fun b h3 => if b then (ev cl elt ρ1 h3).bind fun y h4 => .ok (some y) h4 else .ok none h3
  | none => .bad
end Mi
set_option linter.all false
set_option maxRecDepth 10000
namespace Mi
abbrev EQ := PX → PH → Prop
def W {α : Type} (r : R α) (Q : α → PH → Prop) (X : EQ) : Prop := match r with
  | .ok a h => Q a h
  | .exc x h => X x h
  | .bad => False
abbrev no : EQ := fun _ _ => False
@[simp] theorem W_ok {α : Type} {a : α} {h : PH} {Q : α → PH → Prop} {X : EQ} : W (.ok a h) Q X = Q a h := rfl
@[simp] theorem W_exc {α : Type} {x : PX} {h : PH} {Q : α → PH → Prop} {X : EQ} : W (.exc x h : R α) Q X = X x h := rfl
@[simp] theorem W_bad {α : Type} {Q : α → PH → Prop} {X : EQ} : W (.bad : R α) Q X = False := rfl
theorem W_bind {α β : Type} {r : R α} {f : α → PH → R β} {Q : β → PH → Prop} {X : EQ} : W (r.bind f) Q X = W r (fun a h => W (f a h) Q X) X := by cases r <;> rfl
theorem W_lift {α : Type} {r : R α} {ρ : Env} {f : α → PH → R Fl} {Q : Fl → PH → Prop} {X : EQ} : W (r.lift ρ f) Q X = W r (fun a h => W (f a h) Q X) (fun x h => Q (.xc x ρ) h) := by cases r <;> rfl
theorem W.mono {α : Type} {r : R α} {P Q : α → PH → Prop} {D X : EQ} (w : W r P D) (k : ∀ a h, P a h → Q a h) (l : ∀ x h, D x h → X x h) : W r Q X := by
  cases r with
  | ok a h => exact k a h w
  | exc x h => exact l x h w
  | bad => exact w
theorem W.use {α : Type} {r : R α} {P Q : α → PH → Prop} {X : EQ} (w : W r P no) (k : ∀ a h, P a h → Q a h) : W r Q X := w.mono k fun _ _ z => z.elim
theorem W.get {α : Type} {r : R α} {P : α → PH → Prop} (w : W r P no) : ∃ a h, r = .ok a h ∧ P a h := by
  cases r with
  | ok a h => exact ⟨a, h, rfl, w⟩
  | exc x h => exact w.elim
  | bad => exact w.elim
theorem W.of {α : Type} {r : R α} {P : α → PH → Prop} {X : EQ} {a : α} {h : PH} (e : r = .ok a h) (p : P a h) : W r P X := by rw [e]; exact p
def KF (cl : Cl) (r : List S) (Q : Fl → PH → Prop) (X : EQ) : Fl → PH → Prop
  | .nx ρ, h => W (exs cl r ρ h) Q X
  | .rt v, h => Q (.rt v) h
  | .bk ρ, h => Q (.bk ρ) h
  | .ct ρ, h => Q (.ct ρ) h
  | .xc x ρ, h => Q (.xc x ρ) h
@[simp] theorem KF_nx {cl : Cl} {r : List S} {Q : Fl → PH → Prop} {X : EQ} {ρ : Env} {h : PH} : KF cl r Q X (.nx ρ) h = W (exs cl r ρ h) Q X := rfl
@[simp] theorem KF_rt {cl : Cl} {r : List S} {Q : Fl → PH → Prop} {X : EQ} {v : PV} {h : PH} : KF cl r Q X (.rt v) h = Q (.rt v) h := rfl
@[simp] theorem KF_bk {cl : Cl} {r : List S} {Q : Fl → PH → Prop} {X : EQ} {ρ : Env} {h : PH} : KF cl r Q X (.bk ρ) h = Q (.bk ρ) h := rfl
@[simp] theorem KF_ct {cl : Cl} {r : List S} {Q : Fl → PH → Prop} {X : EQ} {ρ : Env} {h : PH} : KF cl r Q X (.ct ρ) h = Q (.ct ρ) h := rfl
@[simp] theorem KF_xc {cl : Cl} {r : List S} {Q : Fl → PH → Prop} {X : EQ} {x : PX} {ρ : Env} {h : PH} : KF cl r Q X (.xc x ρ) h = Q (.xc x ρ) h := rfl
@[simp] theorem W_nil {cl : Cl} {Q : Fl → PH → Prop} {X : EQ} {ρ : Env} {h : PH} : W (exs cl [] ρ h) Q X = Q (.nx ρ) h := rfl
@[simp] theorem W_cons {cl : Cl} {s : S} {r : List S} {Q : Fl → PH → Prop} {X : EQ} {ρ : Env} {h : PH} : W (exs cl (s :: r) ρ h) Q X = W (ex cl s ρ h) (KF cl r Q X) X := by
  rw [exs, W_bind]
  congr 1
  funext f h1
  cases f <;> rfl
/-- what a def's end is -/
def KE (Q : PV → PH → Prop) (X : EQ) : Fl → PH → Prop
  | .nx _, h => Q .non h
  | .rt v, h => Q v h
  | .bk _, _ => False
  | .ct _, _ => False
  | .xc x _, h => X x h
@[simp] theorem KE_nx {Q : PV → PH → Prop} {X : EQ} {ρ : Env} {h : PH} : KE Q X (.nx ρ) h = Q .non h := rfl
@[simp] theorem KE_rt {Q : PV → PH → Prop} {X : EQ} {v : PV} {h : PH} : KE Q X (.rt v) h = Q v h := rfl
@[simp] theorem KE_xc {Q : PV → PH → Prop} {X : EQ} {x : PX} {ρ : Env} {h : PH} : KE Q X (.xc x ρ) h = X x h := rfl
theorem W_run {cl : Cl} {f : Fn} {vs : List PV} {h : PH} {Q : PV → PH → Prop} {X : EQ} (l : vs.length = f.np) : W (f.run cl vs h) Q X = W (exs cl f.body (vs.map some ++ List.replicate f.nl none) h) (KE Q X) no := by
  rw [run_of l]
  cases exs cl f.body (vs.map some ++ List.replicate f.nl none) h with
  | ok a h1 => cases a <;> rfl
  | exc x h1 => rfl
  | bad => rfl
theorem callN_succ {t : FN → Option Fn} {n : Nat} {f : FN} {d : Fn} {vs : List PV} {h : PH} (e : t f = some d) : callN t (n + 1) f vs h = d.run (callN t n) vs h := by
  simp only [callN, e]
/-- a call, at a level that is not 0 -/
theorem W_call {t : FN → Option Fn} {n : Nat} {f : FN} {d : Fn} {vs : List PV} {h : PH} {Q : PV → PH → Prop} {X : EQ} (hn : 1 ≤ n) (e : t f = some d) (l : vs.length = d.np)
    (k : ∀ m, m + 1 = n → W (exs (callN t m) d.body (vs.map some ++ List.replicate d.nl none) h) (KE Q X) no) : W (callN t n f vs h) Q X := by
  obtain ⟨m, rfl⟩ : ∃ m, n = m + 1 := ⟨n - 1, by omega⟩
  rw [callN_succ e, W_run l]
  exact k m rfl
def KI (cl : Cl) (a b : List S) (ρ : Env) (Q : Fl → PH → Prop) (X : EQ) : Bool → PH → Prop
  | true, h => W (exs cl a ρ h) Q X
  | false, h => W (exs cl b ρ h) Q X
@[simp] theorem KI_t {cl : Cl} {a b : List S} {ρ : Env} {Q : Fl → PH → Prop} {X : EQ} {h : PH} : KI cl a b ρ Q X true h = W (exs cl a ρ h) Q X := rfl
@[simp] theorem KI_f {cl : Cl} {a b : List S} {ρ : Env} {Q : Fl → PH → Prop} {X : EQ} {h : PH} : KI cl a b ρ Q X false h = W (exs cl b ρ h) Q X := rfl
def KO {α : Type} (o : Option α) (Q : α → Prop) : Prop := match o with
  | some a => Q a
  | none => False
@[simp] theorem KO_some {α : Type} {a : α} {Q : α → Prop} : KO (some a) Q = Q a := rfl
section
variable {cl : Cl} {ρ : Env} {h : PH} {Q : Fl → PH → Prop} {X : EQ}
@[simp high] theorem W_nm {i : Nat} {e : E} : W (ex cl (.asg (.nm i) e) ρ h) Q X = W (ev cl e ρ h) (fun x h1 => Q (.nx (ρ.set i (some x))) h1) (fun x h1 => Q (.xc x ρ) h1) := by
  rw [ex, W_lift]
  congr 1
@[simp] theorem W_asg {t : T} {e : E} : W (ex cl (.asg t e) ρ h) Q X = W (ev cl e ρ h) (fun x h1 => KO (bindT h1 t x ρ) fun ρ1 => Q (.nx ρ1) h1) (fun x h1 => Q (.xc x ρ) h1) := by
  rw [ex, W_lift]
  congr 1
  funext x h1
  cases bindT h1 t x ρ <;> rfl
@[simp] theorem W_par {is : List Nat} {es : List E} : W (ex cl (.par is es) ρ h) Q X = W (evs cl es ρ h) (fun xs h1 => KO (setAll is xs ρ) fun ρ1 => Q (.nx ρ1) h1) (fun x h1 => Q (.xc x ρ) h1) := by
  rw [ex, W_lift]
  congr 1
  funext x h1
  cases setAll is x ρ <;> rfl
@[simp] theorem W_ex {e : E} : W (ex cl (.ex e) ρ h) Q X = W (ev cl e ρ h) (fun _ h1 => Q (.nx ρ) h1) (fun x h1 => Q (.xc x ρ) h1) := by
  rw [ex, W_lift]
  rfl
@[simp] theorem W_ret {e : E} : W (ex cl (.ret e) ρ h) Q X = W (ev cl e ρ h) (fun x h1 => Q (.rt x) h1) (fun x h1 => Q (.xc x ρ) h1) := by
  rw [ex, W_lift]
  rfl
@[simp] theorem W_ite {c : E} {a b : List S} : W (ex cl (.ite c a b) ρ h) Q X = W (ev cl c ρ h) (fun x h1 => KO (tru x h1) fun t => KI cl a b ρ Q X t h1) (fun x h1 => Q (.xc x ρ) h1) := by
  rw [ex, W_lift, tst, W_bind]
  congr 1
  funext x h1
  unfold truR
  cases tru x h1 with
  | none => rfl
  | some t => cases t <;> rfl
@[simp] theorem W_pass : W (ex cl .pass ρ h) Q X = Q (.nx ρ) h := by rw [ex]; rfl
@[simp] theorem W_brk : W (ex cl .brk ρ h) Q X = Q (.bk ρ) h := by rw [ex]; rfl
@[simp] theorem W_cnt : W (ex cl .cnt ρ h) Q X = Q (.ct ρ) h := by rw [ex]; rfl
@[simp] theorem W_raise {c : String} {as : List E} : W (ex cl (.raise c as) ρ h) Q X = W (evs cl as ρ h) (fun vs h1 => vs.length ≤ szl ∧ Q (.xc ⟨c, []⟩ ρ) h1) (fun x h1 => Q (.xc x ρ) h1) := by
  rw [ex, W_lift]
  congr 1
  funext x h1
  split
  · next h => simp [W, h]
  · next h => simp [W, h]
@[simp] theorem W_aug {i : Nat} {neg : Bool} {e : E} : W (ex cl (.aug i neg e) ρ h) Q X = KO (ρ[i]?.bind id) fun x => W (ev cl e ρ h) (fun y h1 => W (augV neg x y h1) (fun z h2 => Q (.nx (ρ.set i (some z))) h2) (fun x h1 => Q (.xc x ρ) h1)) (fun x h1 => Q (.xc x ρ) h1) := by
  rw [ex]
  cases ρ[i]? with
  | none => rfl
  | some o =>
    cases o with
    | none => rfl
    | some x =>
      simp only [W_lift]
      rfl
@[simp] theorem W_augI {neg : Bool} {i j : Int} {Q : PV → PH → Prop} {X : EQ} : W (augV neg (.int i) (.int j) h) Q X = Q (.int (if neg then i - j else i + j)) h := rfl
@[simp] theorem W_truR {v : PV} {Q : Bool → PH → Prop} {X : EQ} : W (truR v h) Q X = KO (tru v h) fun b => Q b h := by
  unfold truR
  cases tru v h <;> rfl
@[simp] theorem W_seti {o i e : E} : W (ex cl (.seti o i e) ρ h) Q X = W (ev cl e ρ h) (fun x h1 => W (ev cl o ρ h1) (fun y h2 => W (ev cl i ρ h2) (fun z h3 => W (setiV y z x h3) (fun _ h4 => Q (.nx ρ) h4) (fun x h1 => Q (.xc x ρ) h1)) (fun x h1 => Q (.xc x ρ) h1)) (fun x h1 => Q (.xc x ρ) h1)) (fun x h1 => Q (.xc x ρ) h1) := by
  rw [ex]
  simp only [W_lift]
  rfl
/-- for: what is walked -/
def KL (cl : Cl) (t : T) (body : List S) (ρ : Env) (h : PH) (Q : Fl → PH → Prop) (X : EQ) (o : Option Its) : Prop := ∃ i, o = some i ∧ W (forL i.g (forStep cl t body) i.xs ρ h) Q X
@[simp] theorem W_for {t : T} {ik : IK} {its : List E} {body : List S} : W (ex cl (.for_ t ik its body) ρ h) Q X = W (evs cl its ρ h) (fun vs h1 => KL cl t body ρ h1 Q X (itsOf ik vs h1)) (fun x h1 => Q (.xc x ρ) h1) := by
  rw [ex, W_lift]
  congr 1
  funext vs h1
  cases itsOf ik vs h1 with
  | none => simp [W, KL]
  | some i =>
    simp [KL]
    rfl
theorem KL_of {t : T} {body : List S} {i : Its} (w : W (forL i.g (forStep cl t body) i.xs ρ h) Q X) : KL cl t body ρ h Q X (some i) := ⟨i, rfl, w⟩
/-- a round's end -/
def KR (N : Env → PH → Prop) (Q : Fl → PH → Prop) : Fl → PH → Prop
  | .nx ρ, h => N ρ h
  | .ct ρ, h => N ρ h
  | .bk ρ, h => Q (.nx ρ) h
  | .rt v, h => Q (.rt v) h
  | .xc x ρ, h => Q (.xc x ρ) h
@[simp] theorem KR_nx {N : Env → PH → Prop} {Q : Fl → PH → Prop} {ρ : Env} {h : PH} : KR N Q (.nx ρ) h = N ρ h := rfl
@[simp] theorem KR_ct {N : Env → PH → Prop} {Q : Fl → PH → Prop} {ρ : Env} {h : PH} : KR N Q (.ct ρ) h = N ρ h := rfl
@[simp] theorem KR_bk {N : Env → PH → Prop} {Q : Fl → PH → Prop} {ρ : Env} {h : PH} : KR N Q (.bk ρ) h = Q (.nx ρ) h := rfl
@[simp] theorem KR_rt {N : Env → PH → Prop} {Q : Fl → PH → Prop} {v : PV} {h : PH} : KR N Q (.rt v) h = Q (.rt v) h := rfl
@[simp] theorem KR_xc {N : Env → PH → Prop} {Q : Fl → PH → Prop} {x : PX} {ρ : Env} {h : PH} : KR N Q (.xc x ρ) h = Q (.xc x ρ) h := rfl
/-- for by an invariant over what is left -/
theorem W_forL {g : Gd} {st : PV → Env → PH → R Fl} (I : List PV → Env → PH → Prop)
    (s : ∀ x r ρ h, I (x :: r) ρ h → okG g h = true ∧ W (st x ρ h) (KR (I r) Q) X) (e : ∀ ρ h, I [] ρ h → okG g h = true ∧ Q (.nx ρ) h) :
    ∀ (xs : List PV) (ρ : Env) (h : PH), I xs ρ h → W (forL g st xs ρ h) Q X
  | [], ρ, h, i => by
    obtain ⟨ok, q⟩ := e ρ h i
    rw [forL, if_pos ok]
    exact q
  | x :: r, ρ, h, i => by
    obtain ⟨ok, w⟩ := s x r ρ h i
    rw [forL, if_pos ok, W_bind]
    refine w.mono (fun f h1 k => ?_) fun x h1 k => k
    cases f with
    | nx ρ1 => exact W_forL I s e r ρ1 h1 k
    | ct ρ1 => exact W_forL I s e r ρ1 h1 k
    | bk ρ1 => exact k
    | rt v => exact k
    | xc x ρ1 => exact k
@[simp] theorem W_step {i : Nat} {body : List S} {x : PV} : W (forStep cl (.nm i) body x ρ h) Q X = W (exs cl body (ρ.set i (some x)) h) Q X := by rw [forStep_nm]
theorem W_step2 {t : T} {body : List S} {x : PV} : W (forStep cl t body x ρ h) Q X = KO (bindT h t x ρ) fun ρ1 => W (exs cl body ρ1 h) Q X := by
  unfold forStep
  cases bindT h t x ρ <;> rfl
/-- while by an invariant with a measure -/
theorem W_while {c : E} {body : List S} (I : Nat → Env → PH → Prop)
    (s : ∀ n ρ h, I n ρ h → W (tst cl c ρ h) (fun b h1 => if b then W (exs cl body ρ h1) (KR (fun ρ1 h2 => ∃ m, m < n ∧ I m ρ1 h2) Q) X else Q (.nx ρ) h1) (fun x h1 => Q (.xc x ρ) h1)) :
    ∀ (n k : Nat) (ρ : Env) (h : PH), n < k → I n ρ h → W (whL (fun ρ1 h1 => tst cl c ρ1 h1) (fun ρ1 h1 => exs cl body ρ1 h1) k ρ h) Q X
  | _, 0, _, _, l, _ => absurd l (Nat.not_lt_zero _)
  | n, k + 1, ρ, h, l, i => by
    rw [whL, W_lift]
    refine (s n ρ h i).mono (fun b h1 w => ?_) fun x h1 z => z
    cases b with
    | false => exact (by simpa using w : Q (.nx ρ) h1)
    | true =>
      simp only [if_true] at w ⊢
      rw [W_bind]
      refine w.mono (fun f h2 q => ?_) fun x h1 z => z
      cases f with
      | nx ρ1 =>
        obtain ⟨m, lm, im⟩ := q
        exact W_while I s m k ρ1 h2 (by omega) im
      | ct ρ1 =>
        obtain ⟨m, lm, im⟩ := q
        exact W_while I s m k ρ1 h2 (by omega) im
      | bk ρ1 => exact q
      | rt v => exact q
      | xc x ρ1 => exact q
theorem W_whl {c : E} {body : List S} : W (ex cl (.while_ c body) ρ h) Q X = W (whL (fun ρ1 h1 => tst cl c ρ1 h1) (fun ρ1 h1 => exs cl body ρ1 h1) wfuel ρ h) Q X := by rw [ex]
/-- try -/
def KT (cl : Cl) (ks : List String) (suite : List S) (Q : Fl → PH → Prop) (X : EQ) : Fl → PH → Prop
  | .nx ρ, h => Q (.nx ρ) h
  | .rt v, h => Q (.rt v) h
  | .bk ρ, h => Q (.bk ρ) h
  | .ct ρ, h => Q (.ct ρ) h
  | .xc x ρ, h => if x.cls ∈ ks then W (noxF (exs cl suite ρ h)) Q X else Q (.xc x ρ) h
@[simp] theorem KT_nx {ks : List String} {suite : List S} : KT cl ks suite Q X (.nx ρ) h = Q (.nx ρ) h := rfl
@[simp] theorem KT_rt {ks : List String} {suite : List S} {v : PV} : KT cl ks suite Q X (.rt v) h = Q (.rt v) h := rfl
@[simp] theorem KT_xc {ks : List String} {suite : List S} {x : PX} : KT cl ks suite Q X (.xc x ρ) h = if x.cls ∈ ks then W (noxF (exs cl suite ρ h)) Q X else Q (.xc x ρ) h := rfl
@[simp] theorem W_try {body : List S} {ks : List String} {suite : List S} : W (ex cl (.try_ body ks suite) ρ h) Q X = W (exs cl body ρ h) (KT cl ks suite Q X) X := by
  rw [ex, W_bind]
  congr 1
  funext f h1
  cases f with
  | xc x ρ1 =>
    simp only [KT]
    split <;> rfl
  | _ => rfl
def KN (Q : Fl → PH → Prop) : Fl → PH → Prop
  | .xc _ _, _ => False
  | f, h => Q f h
@[simp] theorem W_nox {r : R Fl} : W (noxF r) Q X = W r (KN Q) no := by
  cases r with
  | ok f h => cases f <;> rfl
  | exc x h => rfl
  | bad => rfl
@[simp] theorem KN_nx : KN Q (.nx ρ) h = Q (.nx ρ) h := rfl
@[simp] theorem KN_rt {v : PV} : KN Q (.rt v) h = Q (.rt v) h := rfl
end
section
variable {cl : Cl} {ρ : Env} {h : PH} {Q : PV → PH → Prop} {X : EQ}
@[simp] theorem W_v {i : Nat} : W (ev cl (.v i) ρ h) Q X = KO (ρ[i]?.bind id) fun v => Q v h := by
  rw [ev]
  cases ρ[i]? with
  | none => rfl
  | some o => cases o <;> rfl
@[simp] theorem W_k {c : PV} : W (ev cl (.k c) ρ h) Q X = Q c h := by rw [ev]; rfl
@[simp] theorem W_bop {o : BOp} {a b : E} : W (ev cl (.bop o a b) ρ h) Q X = W (ev cl a ρ h) (fun x h1 => W (ev cl b ρ h1) (fun y h2 => W (bopV o x y h2) Q X) X) X := by
  rw [ev]; simp only [W_bind]
@[simp] theorem W_neg {i : Int} : W (ev cl (.neg (.k (.int i))) ρ h) Q X = Q (.int (-i)) h := by
  rw [ev, ev]; rfl
@[simp] theorem W_nt {a : E} : W (ev cl (.nt a) ρ h) Q X = W (ev cl a ρ h) (fun x h1 => KO (tru x h1) fun b => Q (.bl (!b)) h1) X := by
  rw [ev]; simp only [W_bind]
  congr 1
  funext x h1
  unfold truR
  cases tru x h1 <;> rfl
def KA (cl : Cl) (b : E) (ρ : Env) (Q : PV → PH → Prop) (X : EQ) (x : PV) (h : PH) : Bool → Prop
  | true => W (ev cl b ρ h) Q X
  | false => Q x h
@[simp] theorem KA_t {b : E} {x : PV} : KA cl b ρ Q X x h true = W (ev cl b ρ h) Q X := rfl
@[simp] theorem KA_f {b : E} {x : PV} : KA cl b ρ Q X x h false = Q x h := rfl
@[simp] theorem W_and {a b : E} : W (ev cl (.and a b) ρ h) Q X = W (ev cl a ρ h) (fun x h1 => KO (tru x h1) (KA cl b ρ Q X x h1)) X := by
  rw [ev]; simp only [W_bind]
  congr 1
  funext x h1
  unfold truR
  cases tru x h1 with
  | none => rfl
  | some t => cases t <;> rfl
@[simp] theorem W_or {a b : E} : W (ev cl (.or a b) ρ h) Q X = W (ev cl a ρ h) (fun x h1 => KO (tru x h1) fun t => KA cl b ρ Q X x h1 (!t)) X := by
  rw [ev]; simp only [W_bind]
  congr 1
  funext x h1
  unfold truR
  cases tru x h1 with
  | none => rfl
  | some t => cases t <;> rfl
@[simp] theorem W_cmp {o : COp} {a b : E} : W (ev cl (.cmp o a b) ρ h) Q X = W (ev cl a ρ h) (fun x h1 => W (ev cl b ρ h1) (fun y h2 => W (cmpV o x y h2) Q X) X) X := by
  rw [ev]; simp only [W_bind]
def KTu (x : PV) (Q : List PV → Prop) : Prop := match x with
  | .tup xs => Q xs
  | _ => False
@[simp] theorem KTu_tup {xs : List PV} {Q : List PV → Prop} : KTu (.tup xs) Q = Q xs := rfl
def KC (cl : Cl) (o : COp) (y : PV) (c : E) (ρ : Env) (Q : PV → PH → Prop) (X : EQ) : PV → PH → Prop
  | .bl true, h => W (ev cl c ρ h) (fun z h1 => W (cmpV o y z h1) Q X) X
  | .bl false, h => Q (.bl false) h
  | _, _ => False
@[simp] theorem KC_t {o : COp} {y : PV} {c : E} : KC cl o y c ρ Q X (.bl true) h = W (ev cl c ρ h) (fun z h1 => W (cmpV o y z h1) Q X) X := rfl
@[simp] theorem KC_f {o : COp} {y : PV} {c : E} : KC cl o y c ρ Q X (.bl false) h = Q (.bl false) h := rfl
@[simp] theorem W_chain {o o' : COp} {a b c : E} : W (ev cl (.chain o o' a b c) ρ h) Q X = W (ev cl a ρ h) (fun x h1 => W (ev cl b ρ h1) (fun y h2 => W (cmpV o x y h2) (KC cl o' y c ρ Q X) X) X) X := by
  rw [ev]; simp only [W_bind]
  congr 1
  funext x h1
  congr 1
  funext y h2
  congr 1
  funext r h3
  unfold KC
  split
  · rw [W_bind]
  · rfl
  · next n1 n2 =>
    show False = _
    cases r with
    | bl b => cases b with
      | true => exact absurd rfl n1
      | false => exact absurd rfl n2
    | _ => rfl
def KJ (cl : Cl) (a b : E) (ρ : Env) (Q : PV → PH → Prop) (X : EQ) (h : PH) : Bool → Prop
  | true => W (ev cl a ρ h) Q X
  | false => W (ev cl b ρ h) Q X
@[simp] theorem KJ_t {a b : E} : KJ cl a b ρ Q X h true = W (ev cl a ρ h) Q X := rfl
@[simp] theorem KJ_f {a b : E} : KJ cl a b ρ Q X h false = W (ev cl b ρ h) Q X := rfl
@[simp] theorem W_eite {c a b : E} : W (ev cl (.ite c a b) ρ h) Q X = W (ev cl c ρ h) (fun x h1 => KO (tru x h1) (KJ cl a b ρ Q X h1)) X := by
  rw [ev]; simp only [W_bind]
  congr 1
  funext x h1
  unfold truR
  cases tru x h1 with
  | none => rfl
  | some t => cases t <;> rfl
@[simp] theorem W_cal {f : String} {as : List E} : W (ev cl (.call f as) ρ h) Q X = W (evs cl as ρ h) (fun vs h1 => W (cl (.f f) vs h1) Q X) X := by
  rw [ev, W_bind]
@[simp] theorem W_blt {f : String} {as : List E} : W (ev cl (.blt f as) ρ h) Q X = W (evs cl as ρ h) (fun vs h1 => W (bltV f vs h1) Q X) X := by
  rw [ev, W_bind]
@[simp] theorem W_isi {a : E} {ts : List String} : W (ev cl (.isi a ts) ρ h) Q X = W (ev cl a ρ h) (fun x h1 => KO (tyN x h1) fun t => Q (.bl (decide (t ∈ ts))) h1) X := by
  rw [ev, W_bind]
  congr 1
  funext x h1
  cases tyN x h1 <;> rfl
@[simp] theorem W_rev {a : E} : W (ev cl (.rev a) ρ h) Q X = W (ev cl a ρ h) (fun x h1 => KTu x fun xs => Q (.tup xs.reverse) h1) X := by
  rw [ev, W_bind]
  congr 1
  funext x h1
  cases x <;> rfl
@[simp] theorem W_gin {neg : Bool} {kvs : List (PV × PV)} {a : E} : W (ev cl (.gin neg kvs a) ρ h) Q X = W (ev cl a ρ h) (fun x h1 => isS x = true ∧ Q (.bl (if neg then !(lookK x kvs).isSome else (lookK x kvs).isSome)) h1) X := by
  rw [ev, W_bind]
  congr 1
  funext x h1
  cases isS x
  · simp
  · simp
@[simp] theorem W_gget {kvs : List (PV × PV)} {a : E} : W (ev cl (.gget kvs a) ρ h) Q X = W (ev cl a ρ h) (fun x h1 => isS x = true ∧ KO (lookK x kvs) fun v => Q v h1) X := by
  rw [ev, W_bind]
  congr 1
  funext x h1
  cases isS x
  · simp
  · simp only [if_true, true_and]
    cases lookK x kvs <;> rfl
@[simp] theorem W_callk {f : String} {ix : List Nat} {as : List E} : W (ev cl (.callk f ix as) ρ h) Q X = W (evs cl as ρ h) (fun vs h1 => KO (permV ix vs) fun us => W (cl (.f f) us h1) Q X) X := by
  rw [ev, W_bind]
  congr 1
  funext vs h1
  cases permV ix vs <;> rfl
@[simp] theorem W_mth {m : String} {o : E} {as : List E} : W (ev cl (.mth m o as) ρ h) Q X = W (ev cl o ρ h) (fun x h1 => mok m x h1 = true ∧ W (evs cl as ρ h1) (fun vs h2 => W (mthV m x vs h2) Q X) X) X := by
  rw [ev, W_bind]
  congr 1
  funext x h1
  cases mok m x h1
  · simp
  · simp only [if_true, true_and, W_bind]
@[simp] theorem W_idx {a b : E} : W (ev cl (.idx a b) ρ h) Q X = W (ev cl a ρ h) (fun x h1 => W (ev cl b ρ h1) (fun y h2 => W (idxV x y h2) Q X) X) X := by
  rw [ev]; simp only [W_bind]
@[simp] theorem W_slc {a : E} {lo hi : Option E} : W (ev cl (.slc a lo hi) ρ h) Q X = W (ev cl a ρ h) (fun x h1 => W (evo cl lo ρ h1) (fun i h2 => W (evo cl hi ρ h2) (fun j h3 => W (slcV x i j h3) Q X) X) X) X := by
  rw [ev]; simp only [W_bind]
@[simp] theorem W_evo0 {Q : Option Int → PH → Prop} : W (evo cl none ρ h) Q X = Q none h := by rw [evo]; rfl
def KOI (Q : Option Int → PH → Prop) : PV → PH → Prop
  | .int i, h => Q (some i) h
  | _, _ => False
@[simp] theorem KOI_int {Q : Option Int → PH → Prop} {i : Int} : KOI Q (.int i) h = Q (some i) h := rfl
@[simp] theorem W_evo1 {e : E} {Q : Option Int → PH → Prop} : W (evo cl (some e) ρ h) Q X = W (ev cl e ρ h) (KOI Q) X := by
  rw [evo, W_bind]
  congr 1
  funext x h1
  cases x <;> rfl
@[simp] theorem W_tup {es : List E} : W (ev cl (.tup es) ρ h) Q X = W (evs cl es ρ h) (fun vs h1 => vs.length ≤ szl ∧ Q (.tup vs) h1) X := by
  rw [ev, W_bind]
  congr 1
  funext x h1
  split
  · next h => simp [W, h]
  · next h => simp [W, h]
@[simp] theorem W_lst {es : List E} : W (ev cl (.lst es) ρ h) Q X = W (evs cl es ρ h) (fun vs h1 => vs.length ≤ szl ∧ Q (.ref h1.length) (h1 ++ [.lst vs])) X := by
  rw [ev, W_bind]
  congr 1
  funext x h1
  split
  · next h => simp [W, h]
  · next h => simp [W, h]
@[simp] theorem W_dct : W (ev cl (.dct [] []) ρ h) Q X = Q (.ref h.length) (h ++ [.dic []]) := by
  rw [ev]; rfl
@[simp] theorem W_evs0 {Q : List PV → PH → Prop} : W (evs cl [] ρ h) Q X = Q [] h := by rw [evs]; rfl
@[simp] theorem W_evs1 {e : E} {es : List E} {Q : List PV → PH → Prop} : W (evs cl (e :: es) ρ h) Q X = W (ev cl e ρ h) (fun x h1 => W (evs cl es ρ h1) (fun xs h2 => Q (x :: xs) h2) X) X := by
  rw [evs]; simp only [W_bind]; rfl
/-- a comprehension: what is walked -/
def KLC (cl : Cl) (elt : E) (t : T) (cs : List E) (ρ : Env) (h : PH) (Q : PV → PH → Prop) (X : EQ) (o : Option Its) : Prop :=
  ∃ i, o = some i ∧ i.xs.length < szl ∧ W (lcL i.g (lcStep cl elt t cs ρ) i.xs h) (fun ys h1 => Q (.ref h1.length) (h1 ++ [.lst ys])) X
@[simp] theorem W_lc {elt : E} {t : T} {ik : IK} {its cs : List E} {own : List Nat} : W (ev cl (.lc elt t ik its cs own) ρ h) Q X = W (evs cl its ρ h) (fun vs h1 => KLC cl elt t cs (wipeE ρ own) h1 Q X (itsOf ik vs h1)) X := by
  rw [ev, W_bind]
  congr 1
  funext vs h1
  cases itsOf ik vs h1 with
  | none => simp [W, KLC]
  | some i =>
    by_cases l : i.xs.length < szl
    · simp only [KLC, l, if_true, Option.some.injEq, exists_eq_left', true_and, W_bind]
      rfl
    · simp [KLC, l, W]
theorem KLC_of {elt : E} {t : T} {cs : List E} {i : Its} (l : i.xs.length < szl) (w : W (lcL i.g (lcStep cl elt t cs ρ) i.xs h) (fun ys h1 => Q (.ref h1.length) (h1 ++ [.lst ys])) X) : KLC cl elt t cs ρ h Q X (some i) := ⟨i, rfl, l, w⟩
@[simp] theorem W_noxR {α : Type} {r : R α} {Q : α → PH → Prop} {X : EQ} : W (nox r) Q X = W r Q no := by
  cases r <;> rfl
/-- a comprehension by an invariant: what stands, what is left -/
theorem W_lcL {g : Gd} {st : PV → PH → R (Option PV)} {Q : List PV → PH → Prop} (I : List PV → List PV → PH → Prop)
    (s : ∀ ys x r h, I ys (x :: r) h → okG g h = true ∧ W (st x h) (fun o h1 => I (ys ++ o.toList) r h1) no) (e : ∀ ys h, I ys [] h → okG g h = true ∧ Q ys h) :
    ∀ (xs : List PV) (h : PH), I [] xs h → W (lcL g st xs h) Q X := by
  suffices H : ∀ (xs ys : List PV) (h : PH), I ys xs h → W (lcL g st xs h) (fun zs h1 => Q (ys ++ zs) h1) X from fun xs h i => H xs [] h i
  intro xs
  induction xs with
  | nil =>
    intro ys h i
    obtain ⟨ok, q⟩ := e ys h i
    rw [lcL, if_pos ok, W_ok, List.append_nil]
    exact q
  | cons x r ih =>
    intro ys h i
    obtain ⟨ok, w⟩ := s ys x r h i
    rw [lcL, if_pos ok, W_bind, W_noxR]
    refine w.mono (fun o h1 k => ?_) fun x h1 z => z.elim
    rw [W_bind]
    refine (ih _ h1 k).mono (fun zs h2 q => ?_) fun x h1 z => z
    cases o with
    | none => simpa [W] using q
    | some y => simpa [W] using q
@[simp] theorem W_lcStep {elt : E} {i : Nat} {x : PV} {Q : Option PV → PH → Prop} : W (lcStep cl elt (.nm i) [] ρ x h) Q X = W (ev cl elt (ρ.set i (some x)) h) (fun y h1 => Q (some y) h1) X := by
  unfold lcStep
  simp only [bindT, evc, bind_ok, if_true, W_bind]
  rfl
def KM (cl : Cl) (elt : E) (ρ : Env) (Q : Option PV → PH → Prop) (X : EQ) (h : PH) : Bool → Prop
  | true => W (ev cl elt ρ h) (fun y h1 => Q (some y) h1) X
  | false => Q none h
@[simp] theorem KM_t {elt : E} {Q : Option PV → PH → Prop} : KM cl elt ρ Q X h true = W (ev cl elt ρ h) (fun y h1 => Q (some y) h1) X := rfl
@[simp] theorem KM_f {elt : E} {Q : Option PV → PH → Prop} : KM cl elt ρ Q X h false = Q none h := rfl
theorem W_lcStepC {elt c : E} {t : T} {x : PV} {Q : Option PV → PH → Prop} : W (lcStep cl elt t [c] ρ x h) Q X = KO (bindT h t x ρ) fun ρ1 => W (ev cl c ρ1 h) (fun z h1 => KO (tru z h1) (KM cl elt ρ1 Q X h1)) X := by
  unfold lcStep
  cases bindT h t x ρ with
  | none => rfl
  | some ρ1 =>
    simp only [evc, W_bind]
    show _ = W _ _ _
    congr 1
    funext z h1
    unfold truR
    cases tru z h1 with
    | none => rfl
    | some b =>
      cases b
      · rfl
      · simp only [W_ok, if_true, W_bind, KO, KM]
end
@[simp] theorem bindT_nm {h : PH} {i : Nat} {v : PV} {ρ : Env} : bindT h (.nm i) v ρ = some (ρ.set i (some v)) := by simp [bindT]
@[simp] theorem bindT_tup {h : PH} {ts : List T} {xs : List PV} {ρ : Env} : bindT h (.tup ts) (.tup xs) ρ = bindTs h ts xs ρ := by simp [bindT]
@[simp] theorem bindTs_nil {h : PH} {ρ : Env} : bindTs h [] [] ρ = some ρ := by simp [bindTs]
@[simp] theorem bindTs_cons {h : PH} {i : Nat} {ts : List T} {x : PV} {xs : List PV} {ρ : Env} : bindTs h (.nm i :: ts) (x :: xs) ρ = bindTs h ts xs (ρ.set i (some x)) := by simp [bindTs]
@[simp] theorem setAll_nil {ρ : Env} : setAll [] [] ρ = some ρ := rfl
@[simp] theorem setAll_cons {i : Nat} {is : List Nat} {v : PV} {vs : List PV} {ρ : Env} : setAll (i :: is) (v :: vs) ρ = setAll is vs (ρ.set i (some v)) := rfl
@[simp] theorem wipe_nil {ρ : Env} : wipeE ρ [] = ρ := rfl
@[simp] theorem wipe_cons {ρ : Env} {i : Nat} {r : List Nat} : wipeE ρ (i :: r) = wipeE (ρ.set i none) r := rfl
@[simp] theorem its_tup {xs : List PV} {h : PH} : itsOf .val [.tup xs] h = some ⟨xs, []⟩ := rfl
theorem its_lst {n : Nat} {xs : List PV} {h : PH} (e : h[n]? = some (.lst xs)) : itsOf .val [.ref n] h = some ⟨xs, [(n, .lst xs)]⟩ := by simp [itsOf, ofVal, e]
@[simp] theorem okG_nil {h : PH} : okG [] h = true := rfl
theorem okG_one {h : PH} {n : Nat} {o : PO} (e : h[n]? = some o) : okG [(n, o)] h = true := by simp [okG, e]
@[simp] theorem tyn_bl {b : Bool} {h : PH} : tyN (.bl b) h = some "bool" := rfl
@[simp] theorem tyn_int {b : Int} {h : PH} : tyN (.int b) h = some "int" := rfl
@[simp] theorem tyn_str {b : List Char} {h : PH} : tyN (.str b) h = some "str" := rfl
@[simp] theorem tyn_non {h : PH} : tyN .non h = some "NoneType" := rfl
@[simp] theorem tyn_tup {b : List PV} {h : PH} : tyN (.tup b) h = some "tuple" := rfl
theorem get_app {h g : PH} {n : Nat} {o : PO} (e : h[n]? = some o) : (h ++ g)[n]? = some o := by rw [List.getElem?_append_left (List.getElem?_eq_some_iff.mp e).1]; exact e
@[simp] theorem den_int {h : PH} {n : Nat} {i : Int} : den h n (.int i) = some (.int i) := by cases n <;> rfl
@[simp] theorem den_str {h : PH} {n : Nat} {s : List Char} : den h n (.str s) = some (.str s) := by cases n <;> rfl
@[simp] theorem den_bl {h : PH} {n : Nat} {b : Bool} : den h n (.bl b) = some (.bl b) := by cases n <;> rfl
@[simp] theorem den_non {h : PH} {n : Nat} : den h n .non = some .non := by cases n <;> rfl
@[simp] theorem eqS {h : PH} {a b : List Char} : eqV (.str a) (.str b) h = some (decide (a = b)) := by
  unfold eqV
  simp [dicStr, empEq, emp, den, D.eqv]
  rw [Bool.eq_iff_iff]
  simp
@[simp] theorem eqI {h : PH} {a b : Int} : eqV (.int a) (.int b) h = some (decide (a = b)) := by
  unfold eqV
  simp [dicStr, empEq, emp, den, D.eqv]
  rw [Bool.eq_iff_iff]
  simp
@[simp] theorem eqB {h : PH} {a b : Bool} : eqV (.bl a) (.bl b) h = some (decide (a = b)) := by
  unfold eqV
  cases a <;> cases b <;> simp [dicStr, empEq, emp, den, D.eqv]
@[simp] theorem W_eq {x y : PV} {h : PH} {Q : PV → PH → Prop} {X : EQ} : W (cmpV .eq x y h) Q X = KO (eqV x y h) fun b => Q (.bl b) h := by
  simp only [cmpV]
  cases eqV x y h <;> rfl
@[simp] theorem W_ne {x y : PV} {h : PH} {Q : PV → PH → Prop} {X : EQ} : W (cmpV .ne x y h) Q X = KO (eqV x y h) fun b => Q (.bl (!b)) h := by
  simp only [cmpV]
  cases eqV x y h <;> rfl
@[simp] theorem W_in {x y : PV} {h : PH} {Q : PV → PH → Prop} {X : EQ} : W (cmpV .isin x y h) Q X = KO (inV x y h) fun b => Q (.bl b) h := by
  simp only [cmpV]
  cases inV x y h <;> rfl
@[simp] theorem W_notin {x y : PV} {h : PH} {Q : PV → PH → Prop} {X : EQ} : W (cmpV .notin x y h) Q X = KO (inV x y h) fun b => Q (.bl (!b)) h := by
  simp only [cmpV]
  cases inV x y h <;> rfl
section
variable {h : PH} {Q : PV → PH → Prop} {X : EQ}
@[simp] theorem W_is {x : PV} : W (cmpV .is x .non h) Q X = Q (.bl (decide (x = .non))) h := rfl
@[simp] theorem W_isnot {x : PV} : W (cmpV .isnot x .non h) Q X = Q (.bl (!decide (x = .non))) h := rfl
@[simp] theorem W_lt {i j : Int} : W (cmpV .lt (.int i) (.int j) h) Q X = Q (.bl (decide (i < j))) h := rfl
@[simp] theorem W_le {i j : Int} : W (cmpV .le (.int i) (.int j) h) Q X = Q (.bl (decide (i ≤ j))) h := rfl
@[simp] theorem W_gt {i j : Int} : W (cmpV .gt (.int i) (.int j) h) Q X = Q (.bl (decide (j < i))) h := rfl
@[simp] theorem W_ge {i j : Int} : W (cmpV .ge (.int i) (.int j) h) Q X = Q (.bl (decide (j ≤ i))) h := rfl
@[simp] theorem W_add {i j : Int} : W (bopV .add (.int i) (.int j) h) Q X = Q (.int (i + j)) h := rfl
@[simp] theorem W_sub {i j : Int} : W (bopV .sub (.int i) (.int j) h) Q X = Q (.int (i - j)) h := rfl
@[simp] theorem W_mul {i j : Int} : W (bopV .mul (.int i) (.int j) h) Q X = (mulOk i j = true ∧ Q (.int (i * j)) h) := by
  simp only [bopV]
  split
  · next h => simp [W, h]
  · next h => simp [W, h]
@[simp] theorem W_fdiv {i j : Int} : W (bopV .fdiv (.int i) (.int j) h) Q X = ((0 < j ∧ j.natAbs.log2 < 9000) ∧ Q (.int (i / j)) h) := by
  simp only [bopV]
  split
  · next h => simp [W, h]
  · next h => simp [W, h]
@[simp] theorem W_mod {i j : Int} : W (bopV .mod (.int i) (.int j) h) Q X = (0 < j ∧ Q (.int (i % j)) h) := by
  simp only [bopV]
  split
  · next h => simp [W, h]
  · next h => simp [W, h]
@[simp] theorem W_pow {i j : Int} : W (bopV .pow (.int i) (.int j) h) Q X = ((0 ≤ j ∧ (i.natAbs.log2 + 1) * j.toNat ≤ 134217728) ∧ Q (.int (i ^ j.toNat)) h) := by
  simp only [bopV]
  split
  · next h => simp [W, h]
  · next h => simp [W, h]
@[simp] theorem W_cat {a b : List Char} : W (bopV .add (.str a) (.str b) h) Q X = (a.length + b.length ≤ szl ∧ Q (.str (a ++ b)) h) := by
  simp only [bopV]
  split
  · next h => simp [W, h]
  · next h => simp [W, h]
@[simp] theorem W_tadd {a b : List PV} : W (bopV .add (.tup a) (.tup b) h) Q X = (a.length + b.length ≤ szl ∧ Q (.tup (a ++ b)) h) := by
  simp only [bopV]
  split
  · next h => simp [W, h]
  · next h => simp [W, h]
/-- built-ins -/
@[simp] theorem W_len {v : PV} : W (bltV "len" [v] h) Q X = KO (lenOf v h) fun k => Q (.int (k : Nat)) h := by
  simp only [bltV]
  cases lenOf v h <;> rfl
@[simp] theorem len_tup {xs : List PV} : lenOf (.tup xs) h = some xs.length := rfl
theorem len_str {s : List Char} (l : s.length ≤ szl) : lenOf (.str s) h = some s.length := by simp [lenOf, l]
theorem len_lst {n : Nat} {xs : List PV} (e : h[n]? = some (.lst xs)) : lenOf (.ref n) h = some xs.length := by simp [lenOf, e]
@[simp] theorem W_int {i : Int} : W (bltV "int" [.int i] h) Q X = Q (.int i) h := rfl
@[simp] theorem W_intb {b : Bool} : W (bltV "int" [.bl b] h) Q X = Q (.int (if b then 1 else 0)) h := rfl
@[simp] theorem W_max {i j : Int} : W (bltV "max" [.int i, .int j] h) Q X = Q (.int (if j > i then j else i)) h := rfl
@[simp] theorem W_min {i j : Int} : W (bltV "min" [.int i, .int j] h) Q X = Q (.int (if j < i then j else i)) h := rfl
@[simp] theorem W_tuple {v : PV} : W (bltV "tuple" [v] h) Q X = KO (seqOf v h) fun xs => Q (.tup xs) h := by
  simp only [bltV]
  cases seqOf v h <;> rfl
@[simp] theorem W_list {v : PV} : W (bltV "list" [v] h) Q X = KO (lisOf v h) fun xs => Q (.ref h.length) (h ++ [.lst xs]) := by
  simp only [bltV]
  cases lisOf v h <;> rfl
@[simp] theorem lis_tup {xs : List PV} : lisOf (.tup xs) h = some xs := rfl
theorem lis_str {s : List Char} (l : s.length ≤ szl) : lisOf (.str s) h = some (s.map fun c => .str [c]) := by simp [lisOf, l]
theorem W_ssetX {s : List Char} (l : s.length < 63) : W (bltV "sorted set" [.str s] h) Q X = Q (.ref h.length) (h ++ [.lst ((sortC s).map fun c => .str [c])]) := by
  simp only [bltV, l, if_true]
  rfl
@[simp] theorem W_sum {v : PV} : W (bltV "sum" [v] h) Q X = KO ((lstOf v h).bind intsOf) fun ns => Q (.int (sumL ns)) h := by
  simp only [bltV]
  cases (lstOf v h).bind intsOf <;> rfl
theorem W_sset {n : Nat} {ns : List Int} (e : (lstOf (.ref n) h).bind intsOf = some ns) (l : ns.length < 63) : W (bltV "sorted set" [.ref n] h) Q X = Q (.ref h.length) (h ++ [.lst ((sortU ns).map .int)]) := by
  simp only [bltV, e, l, if_true]
  rfl
@[simp] theorem W_sorted {v : PV} : W (bltV "sorted" [v] h) Q X = KO ((seqOf v h).bind intsOf) fun ns => Q (.ref h.length) (h ++ [.lst ((sortI ns).map .int)]) := by
  simp only [bltV]
  cases (seqOf v h).bind intsOf <;> rfl
@[simp] theorem W_all {v : PV} : W (bltV "all" [v] h) Q X = KO ((lstOf v h).bind blsOf) fun ns => Q (.bl (ns.all id)) h := by
  simp only [bltV]
  cases (lstOf v h).bind blsOf <;> rfl
@[simp] theorem W_any {v : PV} : W (bltV "any" [v] h) Q X = KO ((lstOf v h).bind blsOf) fun ns => Q (.bl (ns.any id)) h := by
  simp only [bltV]
  cases (lstOf v h).bind blsOf <;> rfl
theorem W_repr {v : PV} {t : List Char} (e : shw h 60 v = some t) (l : t.length ≤ szl) : W (bltV "repr" [v] h) Q X = Q (.str t) h := by
  simp only [bltV, e, l, if_true]
  rfl
@[simp] theorem W_reprb {b : Bool} : W (bltV "repr" [.bl b] h) Q X = Q (.str (if b then ['T', 'r', 'u', 'e'] else ['F', 'a', 'l', 's', 'e'])) h := by
  refine W_repr (t := if b then ['T', 'r', 'u', 'e'] else ['F', 'a', 'l', 's', 'e']) rfl ?_
  cases b <;> decide
@[simp] theorem W_ti {xs : List PV} {i : Int} : W (idxV (.tup xs) (.int i) h) Q X = KO (atI xs i) fun v => Q v h := by
  simp only [idxV]
  cases atI xs i <;> rfl
theorem W_li {n : Nat} {xs : List PV} {i : Int} (e : h[n]? = some (.lst xs)) : W (idxV (.ref n) (.int i) h) Q X = KO (atI xs i) fun v => Q v h := by
  simp only [idxV, e]
  cases atI xs i <;> rfl
@[simp] theorem W_ts {xs : List PV} {lo hi : Option Int} : W (slcV (.tup xs) lo hi h) Q X = Q (.tup (cutL xs lo hi)) h := rfl
theorem W_ls {n : Nat} {xs : List PV} {lo hi : Option Int} (e : h[n]? = some (.lst xs)) : W (slcV (.ref n) lo hi h) Q X = Q (.ref h.length) (h ++ [.lst (cutL xs lo hi)]) := by
  simp only [slcV, e]; rfl
end
section
variable {h : PH} {Q : PV → PH → Prop} {X : EQ} {n : Nat} {xs : List PV}
theorem mok_l (e : h[n]? = some (.lst xs)) : mok "append" (.ref n) h = true ∧ mok "extend" (.ref n) h = true ∧ mok "pop" (.ref n) h = true := by
  simp [mok, isL, e]
theorem W_app {y : PV} (e : h[n]? = some (.lst xs)) : W (mthV "append" (.ref n) [y] h) Q X = (xs.length < szl ∧ Q .non (h.set n (.lst (xs ++ [y])))) := by
  show W (appV (.ref n) [y] h) Q X = _
  simp only [appV, e]
  by_cases l : xs.length < szl
  · simp [l]
  · simp [l]
theorem W_ext {k : Nat} {ys : List PV} (e : h[n]? = some (.lst xs)) (e2 : h[k]? = some (.lst ys)) : W (mthV "extend" (.ref n) [.ref k] h) Q X = (xs.length + ys.length ≤ szl ∧ Q .non (h.set n (.lst (xs ++ ys)))) := by
  show W (extV (.ref n) [.ref k] h) Q X = _
  simp only [extV, e, e2]
  by_cases l : xs.length + ys.length ≤ szl
  · simp [l]
  · simp [l]
theorem W_pop {y : PV} (e : h[n]? = some (.lst (xs ++ [y]))) : W (mthV "pop" (.ref n) [] h) Q X = Q y (h.set n (.lst xs)) := by
  show W (popV (.ref n) [] h) Q X = _
  simp only [popV, e]
  simp
end
/-- try .. except .. as -/
def KTA (cl : Cl) (ks : List String) (i : Nat) (suite : List S) (Q : Fl → PH → Prop) (X : EQ) : Fl → PH → Prop
  | .nx ρ, h => Q (.nx ρ) h
  | .rt v, h => Q (.rt v) h
  | .bk ρ, h => Q (.bk ρ) h
  | .ct ρ, h => Q (.ct ρ) h
  | .xc x ρ, h => if x.cls ∈ ks then W (unF i (exs cl suite (ρ.set i (some (.ref h.length))) (h ++ [.exn x.cls x.fs]))) Q X else Q (.xc x ρ) h
section
variable {cl : Cl} {ρ : Env} {h : PH} {Q : Fl → PH → Prop} {X : EQ} {ks : List String} {i : Nat} {suite : List S}
@[simp] theorem KTA_nx : KTA cl ks i suite Q X (.nx ρ) h = Q (.nx ρ) h := rfl
@[simp] theorem KTA_rt {v : PV} : KTA cl ks i suite Q X (.rt v) h = Q (.rt v) h := rfl
@[simp] theorem KTA_xc {x : PX} : KTA cl ks i suite Q X (.xc x ρ) h = if x.cls ∈ ks then W (unF i (exs cl suite (ρ.set i (some (.ref h.length))) (h ++ [.exn x.cls x.fs]))) Q X else Q (.xc x ρ) h := rfl
@[simp] theorem W_tryA {body : List S} : W (ex cl (.tryA body ks i suite) ρ h) Q X = W (exs cl body ρ h) (KTA cl ks i suite Q X) X := by
  rw [ex, W_bind]
  congr 1
  funext f h1
  cases f with
  | xc x ρ1 =>
    simp only [KTA]
    split <;> rfl
  | _ => rfl
def KU (i : Nat) (Q : Fl → PH → Prop) : Fl → PH → Prop
  | .nx ρ, h => Q (.nx (ρ.set i none)) h
  | .bk ρ, h => Q (.bk (ρ.set i none)) h
  | .ct ρ, h => Q (.ct (ρ.set i none)) h
  | .rt v, h => Q (.rt v) h
  | .xc _ _, _ => False
@[simp] theorem W_unF {r : R Fl} : W (unF i r) Q X = W r (KU i Q) no := by
  cases r with
  | ok f h => cases f <;> rfl
  | exc x h => rfl
  | bad => rfl
@[simp] theorem KU_nx : KU i Q (.nx ρ) h = Q (.nx (ρ.set i none)) h := rfl
@[simp] theorem KU_rt {v : PV} : KU i Q (.rt v) h = Q (.rt v) h := rfl
end
@[simp] theorem tru_bl {b : Bool} {h : PH} : tru (.bl b) h = some b := rfl
@[simp] theorem tru_int {i : Int} {h : PH} : tru (.int i) h = some (i != 0) := rfl
@[simp] theorem tru_non {h : PH} : tru .non h = some false := rfl
@[simp] theorem tru_tup {xs : List PV} {h : PH} : tru (.tup xs) h = some (!xs.isEmpty) := rfl
@[simp] theorem at0 {α : Type} {x : α} {r : List α} : atI (x :: r) 0 = some x := by
  unfold atI ixN
  simp
@[simp] theorem at1 {α : Type} {x y : α} {r : List α} : atI (x :: y :: r) 1 = some y := by
  unfold atI ixN
  have : (1 : Int) < ((x :: y :: r).length : Int) := by simp only [List.length_cons]; omega
  rw [if_pos (by decide), if_pos this]
  rfl
@[simp] theorem at2 {α : Type} {x y z : α} {r : List α} : atI (x :: y :: z :: r) 2 = some z := by
  unfold atI ixN
  have : (2 : Int) < ((x :: y :: z :: r).length : Int) := by simp only [List.length_cons]; omega
  rw [if_pos (by decide), if_pos this]
  rfl
section
variable {cl : Cl} {ρ : Env} {h : PH} {X : EQ}
def lc2Step (cl : Cl) (elt : E) (t : T) (cs : List E) (ρ : Env) (t2 : T) (ik2 : IK) (its2 cs2 : List E) (own2 : List Nat) : Nat → PV → PH → R (List PV) := fun n x h2 => match bindT h2 t x ρ with
  | some ρ1 => (evc cl cs ρ1 h2).bind fun b h3 => if b then (evs cl its2 ρ1 h3).bind fun us h4 => match itsOf ik2 us h4 with
      | some i2 => if n + i2.xs.length < szl then lcL i2.g (lcStep cl elt t2 cs2 (wipeE ρ1 own2)) i2.xs h4 else .bad
      | none => .bad
    else .ok [] h3
  | none => .bad
def KLC2 (st : Nat → PV → PH → R (List PV)) (h : PH) (Q : PV → PH → Prop) (X : EQ) (o : Option Its) : Prop :=
  ∃ i, o = some i ∧ W (lcC i.g st 0 i.xs h) (fun ys h1 => Q (.ref h1.length) (h1 ++ [.lst ys])) X
@[simp] theorem W_lc2 {elt : E} {t : T} {ik : IK} {its cs : List E} {own : List Nat} {t2 : T} {ik2 : IK} {its2 cs2 : List E} {own2 : List Nat} {Q : PV → PH → Prop} : W (ev cl (.lc2 elt t ik its cs own t2 ik2 its2 cs2 own2) ρ h) Q X = W (evs cl its ρ h) (fun vs h1 => KLC2 (lc2Step cl elt t cs (wipeE ρ own) t2 ik2 its2 cs2 own2) h1 Q X (itsOf ik vs h1)) X := by
  rw [ev, W_bind]
  congr 1
  funext vs h1
  cases itsOf ik vs h1 with
  | none => simp [KLC2]
  | some i =>
    simp only [KLC2, Option.some.injEq, exists_eq_left', W_bind]
    rfl
def KLC3 (n : Nat) (st : PV → PH → R (Option PV)) (h : PH) (Q : List PV → PH → Prop) (X : EQ) (o : Option Its) : Prop :=
  ∃ i, o = some i ∧ n + i.xs.length < szl ∧ W (lcL i.g st i.xs h) Q X
@[simp] theorem W_lc2Step {elt : E} {i : Nat} {t2 : T} {ik2 : IK} {its2 cs2 : List E} {own2 : List Nat} {n : Nat} {x : PV} {Q : List PV → PH → Prop} : W (lc2Step cl elt (.nm i) [] ρ t2 ik2 its2 cs2 own2 n x h) Q X = W (evs cl its2 (ρ.set i (some x)) h) (fun us h1 => KLC3 n (lcStep cl elt t2 cs2 (wipeE (ρ.set i (some x)) own2)) h1 Q X (itsOf ik2 us h1)) X := by
  unfold lc2Step
  simp only [bindT, evc, bind_ok, if_true, W_bind]
  congr 1
  funext us h1
  cases itsOf ik2 us h1 with
  | none => simp [KLC3]
  | some j =>
    by_cases l : n + j.xs.length < szl
    · simp [KLC3, l]
    · simp [KLC3, l]
theorem KLC3_of {n : Nat} {st : PV → PH → R (Option PV)} {i : Its} {Q : List PV → PH → Prop} (l : n + i.xs.length < szl) (w : W (lcL i.g st i.xs h) Q X) : KLC3 n st h Q X (some i) := ⟨i, rfl, l, w⟩
theorem W_lcC {g : Gd} {st : Nat → PV → PH → R (List PV)} {Q : List PV → PH → Prop} (I : List PV → List PV → PH → Prop)
    (s : ∀ ys x r h, I ys (x :: r) h → okG g h = true ∧ W (st ys.length x h) (fun o h1 => I (ys ++ o) r h1) no) (e : ∀ ys h, I ys [] h → okG g h = true ∧ Q ys h) :
    ∀ (xs : List PV) (h : PH), I [] xs h → W (lcC g st 0 xs h) Q X := by
  suffices H : ∀ (xs ys : List PV) (h : PH), I ys xs h → W (lcC g st ys.length xs h) (fun zs h1 => Q (ys ++ zs) h1) X from fun xs h i => H xs [] h i
  intro xs
  induction xs with
  | nil =>
    intro ys h i
    obtain ⟨ok, q⟩ := e ys h i
    rw [lcC, if_pos ok, W_ok, List.append_nil]
    exact q
  | cons x r ih =>
    intro ys h i
    obtain ⟨ok, w⟩ := s ys x r h i
    rw [lcC, if_pos ok, W_bind, W_noxR]
    refine w.mono (fun o h1 k => ?_) fun x h1 z => z.elim
    rw [W_bind]
    have q := ih (ys ++ o) h1 k
    rw [List.length_append] at q
    refine q.mono (fun zs h2 q => ?_) fun x h1 z => z
    simpa using q
/-- the items as they are -/
theorem W_id {g : Gd} {i : Nat} {xs : List PV} {Q : List PV → PH → Prop} (hi : i < ρ.length) (ok : okG g h = true) (q : Q xs h) : W (lcL g (lcStep cl (.v i) (.nm i) [] ρ) xs h) Q X := by
  refine W_lcL (fun ys r h1 => ys ++ r = xs ∧ h1 = h) ?_ ?_ xs h ⟨rfl, rfl⟩
  · rintro ys x r h1 ⟨e, rfl⟩
    refine ⟨ok, ?_⟩
    simp [hi, e]
  · rintro ys h1 ⟨e, rfl⟩
    rw [List.append_nil] at e
    exact ⟨ok, e ▸ q⟩
/-- .. and the store stays -/
theorem W_map0 {g : Gd} {elt : E} {i : Nat} {xs : List PV} (f : PV → PV) {Q : List PV → PH → Prop} (ok : okG g h = true)
    (s : ∀ x ∈ xs, W (ev cl elt (ρ.set i (some x)) h) (fun y h1 => y = f x ∧ h1 = h) no) (q : Q (xs.map f) h) : W (lcL g (lcStep cl elt (.nm i) [] ρ) xs h) Q X := by
  refine W_lcL (fun ys r h1 => ys ++ r.map f = xs.map f ∧ (∀ x ∈ r, x ∈ xs) ∧ h1 = h) ?_ ?_ xs h ⟨rfl, fun _ z => z, rfl⟩
  · rintro ys x r h1 ⟨e, m, rfl⟩
    refine ⟨ok, ?_⟩
    rw [W_lcStep]
    refine (s x (m x (by simp))).use ?_
    rintro _ _ ⟨rfl, rfl⟩
    exact ⟨by simpa using e, fun y hy => m y (by simp [hy]), rfl⟩
  · rintro ys h1 ⟨e, m, rfl⟩
    rw [List.map_nil, List.append_nil] at e
    exact ⟨ok, e ▸ q⟩
end
theorem lst_of {h : PH} {n : Nat} {xs : List PV} (e : h[n]? = some (.lst xs)) : lstOf (.ref n) h = some xs := by simp [lstOf, e]
theorem seq_of {h : PH} {n : Nat} {xs : List PV} (e : h[n]? = some (.lst xs)) : seqOf (.ref n) h = some xs := by simp [seqOf, e]
@[simp] theorem seq_tup {h : PH} {xs : List PV} : seqOf (.tup xs) h = some xs := rfl
@[simp] theorem cut_1 {α : Type} {x : α} {r : List α} : cutL (x :: r) (some 1) none = r := by
  unfold cutL sIx
  have : min (1 : Int).toNat (x :: r).length = 1 := by simp only [List.length_cons]; omega
  simp
end Mi
set_option linter.all false
set_option maxRecDepth 10000
namespace Mi
section
variable {cl : Cl} {ρ : Env} {h : PH} {Q : PV → PH → Prop} {X : EQ}
@[simp] theorem W_new {c : String} {as : List E} : W (ev cl (.new c as) ρ h) Q X = W (evs cl as ρ h) (fun vs h1 => W (cl (.m c "__init__") (.ref h1.length :: vs) (h1 ++ [.ins c []])) (fun r h2 => r = .non ∧ Q (.ref h1.length) h2) X) X := by
  rw [ev]
  simp only [W_bind]
  congr 1
  funext vs h1
  congr 1
  funext r h2
  by_cases e : r = .non
  · simp [e]
  · simp [e]
@[simp] theorem W_mto {m : String} {ks : List String} {o : E} {as : List E} : W (ev cl (.mto m ks o as) ρ h) Q X = W (ev cl o ρ h) (fun x h1 => KO (clsOf x m ks h1) fun c => W (evs cl as ρ h1) (fun vs h2 => W (cl (.m c m) (x :: vs) h2) Q X) X) X := by
  rw [ev, W_bind]
  congr 1
  funext x h1
  cases clsOf x m ks h1 with
  | none => rfl
  | some c => simp only [W_bind, KO_some]
@[simp] theorem W_fld {o : E} {f : String} : W (ev cl (.fld o f) ρ h) Q X = W (ev cl o ρ h) (fun x h1 => W (fldV x f h1) Q X) X := by
  rw [ev, W_bind]
@[simp] theorem W_lck {a : E} : W (ev cl (.lck a) ρ h) Q X = W (ev cl a ρ h) (fun x h1 => W (lckV x h1) Q X) X := by
  rw [ev, W_bind]
@[simp] theorem W_dsp1 {a b : E} : W (ev cl (.dsp1 a b) ρ h) Q X = W (ev cl a ρ (h ++ [.dic []])) (fun x h1 => W (ev cl b ρ h1) (fun y h2 => (tkOk x = true ∧ h2[h.length]? = some (.dic [])) ∧ Q (.ref h.length) (h2.set h.length (.dit [(x, y)]))) X) X := by
  rw [ev, W_bind]
  congr 1
  funext x h1
  rw [W_bind]
  congr 1
  funext y h2
  by_cases c : tkOk x = true ∧ h2[h.length]? = some (.dic [])
  · obtain ⟨c1, c2⟩ := c
    rw [if_pos (by simp only [c1, c2, decide_true, Bool.and_self])]
    simp [c1, c2]
  · rw [if_neg (fun z => c (by simpa only [Bool.and_eq_true, decide_eq_true_eq] using z))]
    simp only [W_bad, c, false_and]
@[simp] theorem W_dsp {es : List E} : W (ev cl (.dsp es) ρ h) Q X = W (evs cl es ρ (h ++ [.dic []])) (fun vs h1 => KO (kvsOf vs) fun kvs => ((kvs.all fun p => keyOk p.1) = true ∧ kvs.length ≤ 15 ∧ h1[h.length]? = some (.dic [])) ∧ Q (.ref h.length) (h1.set h.length (.dic (putAll [] kvs)))) X := by
  rw [ev, W_bind]
  congr 1
  funext vs h1
  cases kvsOf vs with
  | none => rfl
  | some kvs =>
    simp only [KO_some]
    by_cases c : (kvs.all fun p => keyOk p.1) = true ∧ kvs.length ≤ 15 ∧ h1[h.length]? = some (.dic [])
    · obtain ⟨c1, c2, c3⟩ := c
      rw [if_pos (by simp only [c1, c2, c3, decide_true, Bool.and_self])]
      simp [c1, c2, c3]
    · rw [if_neg (fun z => c (by simpa only [Bool.and_eq_true, decide_eq_true_eq, and_assoc] using z))]
      rw [eq_false c]
      simp
@[simp] theorem W_mkx {c : String} {as : List E} : W (ev cl (.mkx c as) ρ h) Q X = W (evs cl as ρ h) (fun vs h1 => vs.length ≤ szl ∧ Q (.ref h1.length) (h1 ++ [.exn c []])) X := by
  rw [ev, W_bind]
  congr 1
  funext x h1
  split
  · next h => simp [W, h]
  · next h => simp [W, h]
@[simp] theorem W_mkxi {c f : String} {e : E} : W (ev cl (.mkxi c f e) ρ h) Q X = W (ev cl e ρ h) (fun x h1 => Q (.ref h1.length) (h1 ++ [.exn c [(f, x)]])) X := by
  rw [ev, W_bind]
  rfl
theorem clsOf_ins {n : Nat} {c m : String} {fs : List (String × PV)} {ks : List String} (e : h[n]? = some (.ins c fs)) (l : fs.lookup m = none) (k : c ∈ ks) : clsOf (.ref n) m ks h = some c := by
  simp [clsOf, e, l, k]
theorem W_fldI {n : Nat} {c f : String} {fs : List (String × PV)} (e : h[n]? = some (.ins c fs)) : W (fldV (.ref n) f h) Q X = KO (fs.lookup f) fun v => Q v h := by
  simp only [fldV, e]
  cases fs.lookup f <;> rfl
end
section
variable {cl : Cl} {ρ : Env} {h : PH} {Q : Fl → PH → Prop} {X : EQ}
@[simp] theorem W_setf {o e : E} {f : String} : W (ex cl (.setf o f e) ρ h) Q X = W (ev cl e ρ h) (fun x h1 => W (ev cl o ρ h1) (fun y h2 => W (setfV y f x h2) (fun _ h3 => Q (.nx ρ) h3) (fun x h1 => Q (.xc x ρ) h1)) (fun x h1 => Q (.xc x ρ) h1)) (fun x h1 => Q (.xc x ρ) h1) := by
  rw [ex]
  simp only [W_lift]
  rfl
theorem W_setfI {n : Nat} {c f : String} {fs : List (String × PV)} {v : PV} {Q : Unit → PH → Prop} (e : h[n]? = some (.ins c fs)) (l : fs.length < 900) : W (setfV (.ref n) f v h) Q X = Q () (h.set n (.ins c (putFs f v fs))) := by
  simp only [setfV, e, l, if_true]
  rfl
@[simp] theorem W_augf {o e : E} {f : String} {neg : Bool} : W (ex cl (.augf o f neg e) ρ h) Q X = W (ev cl o ρ h) (fun x h1 => W (fldI x f h1) (fun y h2 => W (ev cl e ρ h2) (fun z h3 => sameC x h2 h3 = true ∧ W (augV neg y z h3) (fun w h4 => W (setfV x f w h4) (fun _ h5 => Q (.nx ρ) h5) (fun x h1 => Q (.xc x ρ) h1)) (fun x h1 => Q (.xc x ρ) h1)) (fun x h1 => Q (.xc x ρ) h1)) (fun x h1 => Q (.xc x ρ) h1)) (fun x h1 => Q (.xc x ρ) h1) := by
  rw [ex]
  simp only [W_lift]
  congr 1
  funext x h1
  congr 1
  funext y h2
  congr 1
  funext z h3
  cases sameC x h2 h3
  · simp
  · simp only [if_true, true_and, W_lift]
    rfl
@[simp] theorem W_raiseI {c f : String} {e : E} : W (ex cl (.raiseI c f e) ρ h) Q X = W (ev cl e ρ h) (fun x h1 => Q (.xc ⟨c, [(f, x)]⟩ ρ) h1) (fun x h1 => Q (.xc x ρ) h1) := by
  rw [ex, W_lift]
  rfl
end
theorem its_str {s : List Char} {h : PH} (l : s.length ≤ szl) : itsOf .val [.str s] h = some ⟨s.map fun c => .str [c], []⟩ := by
  simp only [itsOf, ofVal, l, if_true]
section
variable {cl : Cl} {ρ : Env} {h : PH} {Q : PV → PH → Prop} {X : EQ}
@[simp] theorem W_lam {f : String} {b : E} : W (ev cl (.lam f b) ρ h) Q X = W (cl (.l f fun h1 => ev cl b ρ h1) [.ref h.length] (h ++ [.lam])) Q X := by rw [ev]
@[simp] theorem W_wk {e : E} : W (ev cl (.wk e) ρ h) Q X = W (ev cl e ρ h) (fun x h1 => W (cl .w [x] h1) Q X) X := by rw [ev, W_bind]
def KCl (o : Option String) (Q : String → Prop) (R : Prop) : Prop := match o with
  | some c => Q c
  | none => R
@[simp] theorem KCl_some {c : String} {Q : String → Prop} {R : Prop} : KCl (some c) Q R = Q c := rfl
@[simp] theorem KCl_none {Q : String → Prop} {R : Prop} : KCl none Q R = R := rfl
@[simp] theorem W_ln {ks : List String} {e : E} : W (ev cl (.ln ks e) ρ h) Q X = W (ev cl e ρ h) (fun x h1 => KCl (clsOf x "__len__" ks h1) (fun c => W (cl (.m c "__len__") [x] h1) (fun r h2 => W (lenR r h2) Q X) X) (W (bltV "len" [x] h1) Q X)) X := by
  rw [ev, W_bind]
  congr 1
  funext x h1
  cases clsOf x "__len__" ks h1 with
  | none => rfl
  | some c => simp only [W_bind, KCl_some]
@[simp] theorem W_inn {neg : Bool} {ks : List String} {a b : E} : W (ev cl (.inn neg ks a b) ρ h) Q X = W (ev cl a ρ h) (fun x h1 => W (ev cl b ρ h1) (fun y h2 => KCl (clsOf y "__contains__" ks h2) (fun c => W (cl (.m c "__contains__") [y, x] h2) (fun r h3 => W (negR neg r h3) Q X) X) (W (cmpV (if neg then .notin else .isin) x y h2) Q X)) X) X := by
  rw [ev]
  simp only [W_bind]
  congr 1
  funext x h1
  congr 1
  funext y h2
  cases clsOf y "__contains__" ks h2 with
  | none => rfl
  | some c => simp only [W_bind, KCl_some]
@[simp] theorem W_oeq {neg : Bool} {ks : List String} {a b : E} : W (ev cl (.oeq neg ks a b) ρ h) Q X = W (ev cl a ρ h) (fun x h1 => W (ev cl b ρ h1) (fun y h2 => KCl (clsOf x "__eq__" ks h2) (fun c => (tyN y h2).isSome = true ∧ W (cl (.m c "__eq__") [x, y] h2) (fun r h3 => W (negR neg r h3) Q X) X) (W (cmpV (if neg then .ne else .eq) x y h2) Q X)) X) X := by
  rw [ev]
  simp only [W_bind]
  congr 1
  funext x h1
  congr 1
  funext y h2
  cases clsOf x "__eq__" ks h2 with
  | none => rfl
  | some c =>
    simp only [KCl_some]
    cases (tyN y h2).isSome
    · simp
    · simp only [if_true, true_and, W_bind]
theorem W_told {t : FN → Option Fn} {n i : Nat} {f : String} {d : Fn} {kb : PH → R PV} (hn : 1 ≤ n) (e : t (.f f) = some d) (e2 : t (.l f kb) = none) (np : d.np = 1)
    (k : ∀ m, m + 1 = n → W (exs (clL (callN t m) i kb) d.body ([some (.ref i)] ++ List.replicate d.nl none) h) (KE Q X) no) : W (callN t n (.l f kb) [.ref i] h) Q X := by
  obtain ⟨m, rfl⟩ : ∃ m, n = m + 1 := ⟨n - 1, by omega⟩
  have z : callN t (m + 1) (.l f kb) [.ref i] h = d.run (clL (callN t m) i kb) [.ref i] h := by
    simp only [callN, e2, lamV, e]
  rw [z, W_run (by rw [np]; rfl)]
  exact k m rfl
theorem W_w {i : Nat} {kb : PH → R PV} (g : Gro h (kb h)) : W (clL cl i kb .w [.ref i] h) Q X = W (kb h) Q X := by
  show W (wkV i kb [.ref i] h) Q X = _
  unfold wkV
  simp only [if_true]
  rw [grw_of g]
end
section
variable {cl : Cl} {ρ : Env} {h : PH} {Q : PV → PH → Prop} {X : EQ}
@[simp] theorem W_obn {o : BOp} {ks : List String} {a b : E} : W (ev cl (.obn o ks a b) ρ h) Q X = W (ev cl a ρ h) (fun x h1 => W (ev cl b ρ h1) (fun y h2 => KCl (clsOf x (opN o) ks h2) (fun c => opFit c y h2 = true ∧ W (cl (.m c (opN o)) [x, y] h2) Q X) (W (bopV o x y h2) Q X)) X) X := by
  rw [ev]
  simp only [W_bind]
  congr 1
  funext x h1
  congr 1
  funext y h2
  cases clsOf x (opN o) ks h2 with
  | none => rfl
  | some c =>
    simp only [KCl_some]
    cases opFit c y h2
    · simp
    · simp only [if_true, true_and]
@[simp] theorem W_oiv {ks : List String} {a : E} : W (ev cl (.oiv ks a) ρ h) Q X = W (ev cl a ρ h) (fun x h1 => KCl (clsOf x "__invert__" ks h1) (fun c => W (cl (.m c "__invert__") [x] h1) Q X) False) X := by
  rw [ev]
  simp only [W_bind]
  congr 1
  funext x h1
  cases clsOf x "__invert__" ks h1 <;> rfl
@[simp] theorem W_dspT {es : List E} : W (ev cl (.dspT es) ρ h) Q X = W (evs cl es ρ (h ++ [.dic []])) (fun vs h1 => KO (kvsOf vs) fun kvs => (fitAll [] kvs = true ∧ kvs ≠ [] ∧ kvs.length ≤ 15 ∧ h1[h.length]? = some (.dic [])) ∧ Q (.ref h.length) (h1.set h.length (.dit (putAll [] kvs)))) X := by
  rw [ev, W_bind]
  congr 1
  funext vs h1
  cases kvsOf vs with
  | none => rfl
  | some kvs =>
    simp only [KO_some]
    by_cases c : fitAll [] kvs = true ∧ kvs ≠ [] ∧ kvs.length ≤ 15 ∧ h1[h.length]? = some (.dic [])
    · obtain ⟨c1, c0, c2, c3⟩ := c
      rw [if_pos (by simp only [c1, c2, c3, decide_true, Bool.and_self, decide_eq_true_eq, Bool.and_true, Bool.true_and]; exact c0)]
      simp [c1, c2, c3, c0]
    · rw [if_neg (fun z => c (by simpa only [Bool.and_eq_true, decide_eq_true_eq, and_assoc] using z))]
      rw [eq_false c]
      simp
end
end Mi
set_option linter.all false
set_option maxRecDepth 10000
namespace Lib
open Mi
def c_is_number : Fn := ⟨3, 0, [.ret (.and (.isi (.v 0) ["int", "bool"]) (.and (.nt (.isi (.v 0) ["bool"])) (.chain .le .le (.v 1) (.v 0) (.v 2))))]⟩
def c_is_alphabet : Fn := ⟨1, 1, [.ite (.or (.nt (.isi (.v 0) ["str"])) (.or (.cmp .eq (.v 0) (.k (.str []))) (.nt (.blt "all" [.lc (.cmp .isin (.v 1) (.k (.str ['a', 'b', 'c', 'd']))) (.nm 1) .val [.v 0] [] [1]])))) [.ret (.k (.bl false))] [],
  .ret (.cmp .eq (.blt "list" [.v 0]) (.blt "sorted set" [.v 0]))]⟩
def c_need_letters : Fn := ⟨1, 0, [.ite (.nt (.call "is_alphabet" [.v 0])) [.raise "BadLetters" [.k (.str ['n', 'o', 't', ' ', 'a', 'n', ' ', 'a', 'l', 'p', 'h', 'a', 'b', 'e', 't'])]] []]⟩
def c_is_text : Fn := ⟨2, 1, [.ex (.call "need_letters" [.v 0]),
  .ret (.and (.isi (.v 1) ["str"]) (.blt "all" [.lc (.cmp .isin (.v 2) (.v 0)) (.nm 2) .val [.v 1] [] [2]]))]⟩
def c_need_text : Fn := ⟨2, 0, [.ite (.nt (.call "is_text" [.v 0, .v 1])) [.raise "BadText" [.k (.str ['n', 'o', 't', ' ', 'a', ' ', 't', 'e', 'x', 't', ' ', 'o', 'v', 'e', 'r', ' ', 't', 'h', 'e', ' ', 'a', 'l', 'p', 'h', 'a', 'b', 'e', 't'])]] []]⟩
class HNum (τ : FN → Option Fn) : Prop where
  num : τ (.f "is_number") = some c_is_number
class HAlp (τ : FN → Option Fn) : Prop where
  alp : τ (.f "is_alphabet") = some c_is_alphabet
  nal : τ (.f "need_letters") = some c_need_letters
class HTxt (τ : FN → Option Fn) : Prop extends HAlp τ where
  txt : τ (.f "is_text") = some c_is_text
class HNtx (τ : FN → Option Fn) : Prop extends HTxt τ where
  ntx : τ (.f "need_text") = some c_need_text
variable {τ : FN → Option Fn}
def PF (h h' : PH) : Prop := ∀ (i : Nat) (o : PO), h[i]? = some o → h'[i]? = some o
theorem PF.refl {h : PH} : PF h h := fun _ _ e => e
theorem PF.trans {h h1 h2 : PH} (a : PF h h1) (b : PF h1 h2) : PF h h2 := fun i o e => b i o (a i o e)
theorem PF.app {h g : PH} : PF h (h ++ g) := fun i o e => get_app e
def PA (h h' : PH) : Prop := ∃ u, h' = h ++ u
theorem PA.pf {h h' : PH} (a : PA h h') : PF h h' := by
  obtain ⟨u, rfl⟩ := a
  exact PF.app
theorem PA.refl {h : PH} : PA h h := ⟨[], by simp⟩
theorem PA.app {h u : PH} : PA h (h ++ u) := ⟨u, rfl⟩
theorem PA.trans {h h1 h2 : PH} (a : PA h h1) (b : PA h1 h2) : PA h h2 := by
  obtain ⟨u, rfl⟩ := a
  obtain ⟨v, rfl⟩ := b
  exact ⟨u ++ v, by simp⟩
theorem num_W [HNum τ] {n : Nat} {i lo hi : Int} {h : PH} (hn : 1 ≤ n) : W (callN τ n (.f "is_number") [.int i, .int lo, .int hi] h) (fun r g => r = .bl (decide (lo ≤ i ∧ i ≤ hi)) ∧ g = h) no := by
  refine W_call hn HNum.num rfl fun k hk => ?_
  simp [c_is_number, tyN]
  by_cases h1 : lo ≤ i
  · simp [h1]
  · simp [h1]
def alphB (s : List Char) : Bool := !s.isEmpty && s.all (fun c => decide (c ∈ ['a', 'b', 'c', 'd'])) && decide (s = sortC s)
theorem den_chars {h : PH} {n : Nat} : ∀ {s : List Char}, mapO (den h n) (s.map fun c => PV.str [c]) = some (s.map fun c => D.str [c])
  | [] => rfl
  | c :: r => by
    rw [List.map_cons, mapO, den_chars]
    simp
theorem eqvs_chars : ∀ {s t : List Char}, D.eqvs (s.map fun c => D.str [c]) (t.map fun c => D.str [c]) = decide (s = t)
  | [], [] => by simp [D.eqvs]
  | [], _ :: _ => by simp [D.eqvs]
  | _ :: _, [] => by simp [D.eqvs]
  | c :: r, d :: t => by
    simp only [List.map_cons, D.eqvs, D.eqv, eqvs_chars (s := r) (t := t)]
    rw [Bool.eq_iff_iff]
    simp
theorem den_ref {h : PH} {a n : Nat} {xs : List PV} (e : h[a]? = some (.lst xs)) : den h (n + 1) (.ref a) = (mapO (den h n) xs).map .lst := by
  simp only [den, e]
theorem eq_chars {h : PH} {a b : Nat} {s t : List Char} (ha : h[a]? = some (.lst (s.map fun c => .str [c]))) (hb : h[b]? = some (.lst (t.map fun c => .str [c]))) : eqV (.ref a) (.ref b) h = some (decide (s = t)) := by
  have d1 : den h 60 (.ref a) = some (.lst (s.map fun c => .str [c])) := by
    rw [den_ref (n := 59) ha, den_chars]
    rfl
  have d2 : den h 60 (.ref b) = some (.lst (t.map fun c => .str [c])) := by
    rw [den_ref (n := 59) hb, den_chars]
    rfl
  unfold eqV
  rw [if_neg (by simp [dicStr]), d1, d2]
  have e1 : emp (.ref a) h = some (false, s.isEmpty) := by
    simp only [emp, ha]
    cases s <;> rfl
  have e2 : emp (.ref b) h = some (false, t.isEmpty) := by
    simp only [emp, hb]
    cases t <;> rfl
  unfold empEq
  rw [e1, e2]
  cases s <;> cases t <;> simp [D.eqv, eqvs_chars]
  rename_i c r d t
  have := eqvs_chars (s := c :: r) (t := d :: t)
  simpa [D.eqv] using this
theorem bls_chars {f : Char → Bool} : ∀ s : List Char, blsOf ((s.map fun c => PV.str [c]).map fun x => PV.bl (match x with
        | .str [c] => f c
        | _ => false)) = some (s.map f)
  | [] => rfl
  | c :: r => by
    rw [List.map_cons, List.map_cons, blsOf, bls_chars r]
    rfl
theorem alph_W [HAlp τ] {n : Nat} {s : List Char} {h : PH} (hn : 1 ≤ n) (hs : s.length < 60) (ab : alphB s = true) :
    W (callN τ n (.f "is_alphabet") [.str s] h) (fun r h' => r = .bl true ∧ PA h h') no := by
  refine W_call hn HAlp.alp rfl fun k hk => ?_
  rw [c_is_alphabet, W_cons]
  simp [-W_cons, tyN]
  unfold alphB at ab
  simp only [Bool.and_eq_true, Bool.not_eq_true', decide_eq_true_eq] at ab
  obtain ⟨⟨a1, a2⟩, a3⟩ := ab
  have h0 : s ≠ [] := by
    rintro rfl
    simp at a1
  have lz : s.length ≤ szl := by simp only [szl]; omega
  simp [-W_cons, h0]
  have ei : itsOf .val [.str s] h = some ⟨s.map fun c => .str [c], []⟩ := by simp [itsOf, ofVal, lz]
  rw [ei]
  refine KLC_of (by simp [szl]; omega) ?_
  refine W_map0 (fun x => .bl (match x with
    | .str [c] => decide (c ∈ ['a', 'b', 'c', 'd'])
    | _ => false)) rfl (fun x hx => ?_) ?_
  · obtain ⟨c, _, rfl⟩ := List.mem_map.mp hx
    simp [inV]
  · rw [lst_of get_new, Option.bind_some]
    show KO (blsOf ((s.map fun c => PV.str [c]).map _)) _
    rw [bls_chars, KO_some, List.all_map]
    have ea : s.all (id ∘ fun c => decide (c ∈ ['a', 'b', 'c', 'd'])) = s.all (fun c => decide (c ∈ ['a', 'b', 'c', 'd'])) := rfl
    rw [ea, a2]
    simp [lis_str lz, -List.length_append, -List.append_assoc]
    rw [W_ssetX (by omega), eq_chars (get_app get_new) get_new]
    simp [a3.symm, -List.length_append, -List.append_assoc]
    exact PA.app.trans (PA.app.trans PA.app)
theorem let_W [HAlp τ] {n : Nat} {s : List Char} {h : PH} (hn : 3 ≤ n) (l : s.length < 60) (e : alphB s = true) :
    W (callN τ n (.f "need_letters") [.str s] h) (fun _ h' => PA h h') no := by
  refine W_call (by omega) HAlp.nal rfl fun k hk => ?_
  simp [c_need_letters]
  refine (alph_W (by omega) l e).use ?_
  rintro _ h2 ⟨rfl, q⟩
  simp
  exact q
theorem ty_pf {v : PV} {h h' : PH} {t : String} (e : tyN v h = some t) (p : PF h h') : tyN v h' = some t := by
  cases v with
  | ref n =>
    simp only [tyN] at e ⊢
    cases q : h[n]? with
    | none => simp [q] at e
    | some o =>
      rw [p n o q]
      rw [q] at e
      exact e
  | _ => exact e
/-- a text that is short, or a value of another type -/
def Odd (v : PV) (ty : String) : Prop := (∃ t, v = .str t ∧ t.length < szl) ∨ ty ≠ "str"
def txtB (s : List Char) : PV → Bool
  | .str t => t.all fun c => decide (c ∈ s)
  | _ => false
theorem txt_W [HTxt τ] {n : Nat} {s : List Char} {v : PV} {ty : String} {h : PH} (hn : 4 ≤ n) (l : s.length < 60) (e : alphB s = true) (et : tyN v h = some ty) (hs : Odd v ty) :
    W (callN τ n (.f "is_text") [.str s, v] h) (fun r h' => r = .bl (txtB s v) ∧ PA h h') no := by
  refine W_call (by omega) HTxt.txt rfl fun k hk => ?_
  rw [c_is_text, W_cons]
  simp [-W_cons]
  refine (let_W (by omega) l e).use ?_
  rintro _ h2 p
  have et2 := ty_pf et p.pf
  simp [et2]
  by_cases ts : ty = "str"
  · subst ts
    obtain ⟨t, rfl, lt⟩ : ∃ t, v = .str t ∧ t.length < szl := hs.resolve_right (by simp)
    simp
    rw [its_str (Nat.le_of_lt lt)]
    refine KLC_of (by rw [List.length_map]; exact lt) ?_
    refine W_map0 (fun x => .bl (match x with
      | .str [c] => decide (c ∈ s)
      | _ => false)) rfl (fun x hx => ?_) ?_
    · obtain ⟨c, _, rfl⟩ := List.mem_map.mp hx
      simp [inV]
    · rw [lst_of get_new, Option.bind_some]
      show KO (blsOf ((t.map fun c => PV.str [c]).map _)) _
      rw [bls_chars, KO_some, List.all_map]
      exact ⟨rfl, p.trans PA.app⟩
  · simp [ts]
    refine ⟨?_, p⟩
    cases v with
    | str t => exact absurd (Option.some.inj (et.symm.trans rfl)) ts
    | _ => rfl
end Lib
set_option linter.all false
set_option maxRecDepth 10000
namespace Lib
open Mi
def c_place_of : Fn := ⟨2, 2, [.ret (.idx (.lc (.v 2) (.tup [.nm 2, .nm 3]) .enums [.v 0] [.cmp .eq (.v 3) (.v 1)] [2, 3]) (.k (.int 0)))]⟩
def c_state_behind : Fn := ⟨4, 1, [.for_ (.nm 4) .val [.v 3] [.asg (.nm 2) (.idx (.idx (.v 1) (.v 2)) (.call "place_of" [.v 0, .v 4]))],
  .ret (.v 2)]⟩
class HRun (τ : FN → Option Fn) : Prop where
  place : τ (.f "place_of") = some c_place_of
  behind : τ (.f "state_behind") = some c_state_behind
variable {τ : FN → Option Fn}
def SeqI (h : PH) (c : PV) (xs : List PV) : Prop := c = .tup xs ∨ ∃ q, c = .ref q ∧ h[q]? = some (.lst xs)
theorem SeqI.mono {h h' : PH} {c : PV} {xs : List PV} (s : SeqI h c xs) (p : PF h h') : SeqI h' c xs := by
  rcases s with rfl | ⟨q, rfl, e⟩
  · exact .inl rfl
  · exact .inr ⟨q, rfl, p _ _ e⟩
theorem atI_nat {α : Type} {xs : List α} {q : Nat} {y : α} (e : xs[q]? = some y) : atI xs (q : Nat) = some y := by
  have l : q < xs.length := by
    rcases Nat.lt_or_ge q xs.length with l | l
    · exact l
    · rw [List.getElem?_eq_none l] at e
      simp at e
  unfold atI
  rw [ixN_of (by omega) (by omega)]
  simpa using e
theorem SeqI.idx {h : PH} {c y : PV} {xs : List PV} {q : Nat} (s : SeqI h c xs) (e : xs[q]? = some y) : W (idxV c (.int (q : Nat)) h) (fun r g => r = y ∧ g = h) no := by
  rcases s with rfl | ⟨a, rfl, ea⟩
  · rw [W_ti, atI_nat e]
    exact ⟨rfl, rfl⟩
  · rw [W_li ea, atI_nat e]
    exact ⟨rfl, rfl⟩
theorem SeqI.len {h : PH} {c : PV} {xs : List PV} (s : SeqI h c xs) : lenOf c h = some xs.length := by
  rcases s with rfl | ⟨q, rfl, e⟩
  · rfl
  · exact len_lst e
theorem SeqI.ty {h : PH} {c : PV} {xs : List PV} (s : SeqI h c xs) : ∃ t, tyN c h = some t ∧ t ∈ ["list", "tuple"] := by
  rcases s with rfl | ⟨q, rfl, e⟩
  · exact ⟨_, rfl, by simp⟩
  · exact ⟨"list", by simp [tyN, e], by simp⟩
theorem SeqI.its {h : PH} {c : PV} {xs : List PV} (s : SeqI h c xs) : ∃ g, itsOf .val [c] h = some ⟨xs, g⟩ ∧ ∀ h', PF h h' → okG g h' = true := by
  rcases s with rfl | ⟨q, rfl, e⟩
  · exact ⟨[], rfl, fun _ _ => rfl⟩
  · exact ⟨[(q, .lst xs)], by simp [itsOf, ofVal, e], fun h' p => okG_one (p _ _ e)⟩
theorem SeqI.seq {h : PH} {c : PV} {xs : List PV} (s : SeqI h c xs) : seqOf c h = some xs := by
  rcases s with rfl | ⟨q, rfl, e⟩
  · rfl
  · exact seq_of e
theorem SeqI.new {h : PH} {xs : List PV} : SeqI (h ++ [PO.lst xs]) (.ref h.length) xs := .inr ⟨_, rfl, get_new⟩
def intsV (r : List Nat) : List PV := r.map fun x => .int (x : Nat)
/-- a container of rows -/
def Rws (h : PH) (v : PV) (R : List (List Nat)) : Prop := ∃ cs, SeqI h v cs ∧ cs.length = R.length ∧ ∀ (q : Nat) (c : PV) (r : List Nat), cs[q]? = some c → R[q]? = some r → SeqI h c (intsV r)
theorem Rws.mono {h h' : PH} {v : PV} {R : List (List Nat)} (s : Rws h v R) (p : PF h h') : Rws h' v R := by
  obtain ⟨cs, a, b, c⟩ := s
  exact ⟨cs, a.mono p, b, fun q x r e1 e2 => (c q x r e1 e2).mono p⟩
theorem Rws.idx {h : PH} {v : PV} {R : List (List Nat)} {q : Nat} (s : Rws h v R) (l : q < R.length) : W (idxV v (.int (q : Nat)) h) (fun x g => g = h ∧ SeqI h x (intsV R[q])) no := by
  obtain ⟨cs, a, b, c⟩ := s
  have e : cs[q]? = some (cs[q]'(by omega)) := List.getElem?_eq_getElem (by omega)
  refine (a.idx e).use ?_
  rintro _ _ ⟨rfl, rfl⟩
  exact ⟨rfl, c q _ _ e (List.getElem?_eq_getElem l)⟩
def nxt (s : List Char) (R : List (List Nat)) (q : Nat) (c : Char) : Nat := match idxC c s with
  | some j => ((R[q]?).bind (·[j]?)).getD 0
  | none => 0
def run (s : List Char) (R : List (List Nat)) (q : Nat) (t : List Char) : Nat := t.foldl (nxt s R) q
structure MOk (s : List Char) (R : List (List Nat)) : Prop where
  len : s.length < 60
  alph : alphB s = true
  pos : 0 < R.length
  few : R.length ≤ 40
  row : ∀ r ∈ R, r.length = s.length ∧ ∀ x ∈ r, x < R.length
end Lib
set_option linter.all false
set_option maxRecDepth 10000
namespace Lib
open Mi
def c_Machine____len__ : Fn := ⟨1, 0, [.ret (.blt "len" [.fld (.v 0) "own_rows"])]⟩
def c_Machine__end : Fn := ⟨2, 0, [.ex (.call "need_text" [.fld (.v 0) "own_letters", .v 1]),
  .ret (.call "state_behind" [.fld (.v 0) "own_letters", .fld (.v 0) "own_rows", .k (.int 0), .v 1])]⟩
def c_Machine____contains__ : Fn := ⟨2, 0, [.ite (.nt (.call "is_text" [.fld (.v 0) "own_letters", .v 1])) [.ret (.k (.bl false))] [],
  .ret (.cmp .isin (.call "state_behind" [.fld (.v 0) "own_letters", .fld (.v 0) "own_rows", .k (.int 0), .v 1]) (.fld (.v 0) "own_accepting"))]⟩
def c_Machine____call__ : Fn := ⟨3, 0, [.ite (.nt (.call "is_number" [.v 1, .k (.int 0), .bop .sub (.blt "len" [.fld (.v 0) "own_rows"]) (.k (.int 1))])) [.raise "BadNumber" [.k (.str ['n', 'o', 't', ' ', 'a', ' ', 's', 't', 'a', 't', 'e'])]] [],
  .ex (.call "need_text" [.fld (.v 0) "own_letters", .v 2]),
  .ret (.call "state_behind" [.fld (.v 0) "own_letters", .fld (.v 0) "own_rows", .v 1, .v 2])]⟩
class HLen (τ : FN → Option Fn) : Prop where
  len : τ (.m "Machine" "__len__") = some c_Machine____len__
class HEnd (τ : FN → Option Fn) : Prop extends HNtx τ, HRun τ where
  end_ : τ (.m "Machine" "end") = some c_Machine__end
class HIn (τ : FN → Option Fn) : Prop extends HTxt τ, HRun τ where
  in_ : τ (.m "Machine" "__contains__") = some c_Machine____contains__
class HCall (τ : FN → Option Fn) : Prop extends HNtx τ, HRun τ, HNum τ where
  call : τ (.m "Machine" "__call__") = some c_Machine____call__
variable {τ : FN → Option Fn}
def rowsV (R : List (List Nat)) : PV := .tup (R.map fun r => .tup (intsV r))
theorem Rws.tup {h : PH} {R : List (List Nat)} : Rws h (rowsV R) R := by
  refine ⟨_, .inl rfl, by simp, fun q c r e1 e2 => ?_⟩
  rw [List.getElem?_map, e2] at e1
  exact .inl (Option.some.inj e1).symm
section
variable {n a : Nat} {s t : List Char} {R : List (List Nat)} {A : List Nat} {h : PH}
end
theorem den_nat {h : PH} {n : Nat} {i : Int} : den h n (.int i) = some (.int i) := by cases n <;> simp [den]
theorem den_ints {h : PH} {n : Nat} : ∀ {A : List Nat}, mapO (den h n) (intsV A) = some (A.map fun x => D.int (x : Nat))
  | [] => rfl
  | x :: r => by
    have ih := den_ints (h := h) (n := n) (A := r)
    show mapO (den h n) (.int (x : Nat) :: intsV r) = _
    rw [mapO, den_nat, ih]
    rfl
theorem any_ints {q : Nat} : ∀ {A : List Nat}, anyEq (.int (q : Nat)) (A.map fun x => D.int (x : Nat)) = decide (q ∈ A)
  | [] => by simp [anyEq]
  | x :: r => by
    rw [List.map_cons, anyEq, any_ints]
    rw [Bool.eq_iff_iff]
    simp only [D.eqv, Bool.or_eq_true, beq_iff_eq, decide_eq_true_eq, List.mem_cons]
    constructor
    · rintro (e | m)
      · exact .inl (by omega)
      · exact .inr m
    · rintro (e | m)
      · exact .inl (by omega)
      · exact .inr m
theorem in_tup {h : PH} {q : Nat} {A : List Nat} : inV (.int (q : Nat)) (.tup (intsV A)) h = some (decide (q ∈ A)) := by
  simp only [inV, den_nat, den_ints, any_ints]
theorem in_lst {h : PH} {p q : Nat} {A : List Nat} (e : h[p]? = some (.lst (intsV A))) : inV (.int (q : Nat)) (.ref p) h = some (decide (q ∈ A)) := by
  simp only [inV, e, den_nat, den_ints, any_ints]
section
variable {n a : Nat} {s t : List Char} {R : List (List Nat)} {A : List Nat} {h : PH}
end
end Lib
set_option linter.all false
set_option maxRecDepth 10000
namespace Lib
open Mi
def c__law_begin : Fn := ⟨2, 0, [.ret (.lst [.blt "max" [.k (.int 0), .bop .sub (.v 0) (.bop .pow (.k (.int 10)) (.k (.int 18)))], .bop .add (.v 0) (.bop .mul (.k (.int 977)) (.v 1)), .k (.int 0)])]⟩
def c__law_draw : Fn := ⟨2, 1, [.ite (.cmp .gt (.idx (.v 0) (.k (.int 0))) (.k (.int 0))) [.asg (.nm 2) (.bop .mod (.blt "int" [.idx (.v 0) (.k (.int 0))]) (.v 1)),
  .seti (.v 0) (.k (.int 0)) (.bop .fdiv (.idx (.v 0) (.k (.int 0))) (.v 1)),
  .ret (.v 2)] [],
  .seti (.v 0) (.k (.int 2)) (.bop .add (.idx (.v 0) (.k (.int 2))) (.k (.int 1))),
  .asg (.nm 2) (.bop .add (.bop .mod (.blt "int" [.idx (.v 0) (.k (.int 1))]) (.k (.int 2147483629))) (.bop .mul (.k (.int 104729)) (.idx (.v 0) (.k (.int 2))))),
  .asg (.nm 2) (.bop .mul (.v 2) (.bop .add (.bop .add (.bop .mod (.blt "int" [.idx (.v 0) (.k (.int 1))]) (.k (.int 2147483587))) (.bop .mul (.bop .mul (.k (.int 7919)) (.idx (.v 0) (.k (.int 2)))) (.idx (.v 0) (.k (.int 2))))) (.k (.int 11)))),
  .ret (.bop .mod (.blt "int" [.bop .fdiv (.bop .mod (.blt "int" [.bop .pow (.v 2) (.k (.int 3))]) (.k (.int 2147483647))) (.k (.int 11))]) (.v 1))]⟩
def c__law_pick : Fn := ⟨2, 0, [.ret (.idx (.v 1) (.call "_law_draw" [.v 0, .blt "len" [.v 1]]))]⟩
def c__law_alphabet : Fn := ⟨1, 0, [.ret (.call "_law_pick" [.v 0, .lst [.k (.str ['a']), .k (.str ['a', 'b']), .k (.str ['a', 'b', 'c']), .k (.str ['b', 'd']), .k (.str ['a', 'b', 'c', 'd']), .k (.str ['c']), .k (.str ['a', 'd']), .k (.str ['b', 'c', 'd'])]])]⟩
def c__law_word : Fn := ⟨3, 1, [.ret (.mth "join" (.k (.str [])) [.lc (.call "_law_pick" [.v 0, .v 1]) (.nm 3) .rng [.call "_law_draw" [.v 0, .bop .add (.v 2) (.k (.int 1))]] [] [3]])]⟩
def c__law_table : Fn := ⟨3, 5, [.asg (.nm 3) (.bop .add (.k (.int 1)) (.call "_law_draw" [.v 0, .v 2])),
  .asg (.nm 4) (.lc (.lc (.call "_law_draw" [.v 0, .v 3]) (.nm 6) .val [.v 1] [] [6]) (.nm 5) .rng [.v 3] [] [5]),
  .ret (.tup [.v 4, .lc (.v 7) (.nm 7) .rng [.v 3] [.cmp .eq (.call "_law_draw" [.v 0, .k (.int 2)]) (.k (.int 0))] [7]])]⟩
class HBeg (τ : FN → Option Fn) : Prop where
  beg : τ (.f "_law_begin") = some c__law_begin
class HDraw (τ : FN → Option Fn) : Prop where
  draw : τ (.f "_law_draw") = some c__law_draw
class HPick (τ : FN → Option Fn) : Prop extends HDraw τ where
  pick : τ (.f "_law_pick") = some c__law_pick
class HAbc (τ : FN → Option Fn) : Prop extends HPick τ where
  abc : τ (.f "_law_alphabet") = some c__law_alphabet
class HWord (τ : FN → Option Fn) : Prop extends HPick τ where
  word : τ (.f "_law_word") = some c__law_word
class HTbl (τ : FN → Option Fn) : Prop extends HDraw τ where
  tbl : τ (.f "_law_table") = some c__law_table
variable {τ : FN → Option Fn}
def St (p m : Nat) (h h' : PH) : Prop := Ok h' p m ∧ Kp p h h'
theorem St.app {p m : Nat} {h h' g : PH} (s : St p m h h') : St p m h (h' ++ g) := ⟨s.1.app, s.2.trans Kp.app⟩
theorem St.trans {p m m' : Nat} {h h1 h2 : PH} (a : St p m h h1) (b : St p m' h1 h2) : St p m' h h2 := ⟨b.1, a.2.trans b.2⟩
theorem St.more {p m m' : Nat} {h h1 : PH} (a : St p m h h1) (l : m ≤ m') : St p m' h h1 := ⟨a.1.more l, a.2⟩
theorem ok_pf {p m : Nat} {h h' : PH} (o : Ok h p m) (f : PF h h') : Ok h' p m := by
  obtain ⟨a, b, c, e, r⟩ := o
  exact ⟨a, b, c, f p _ e, r⟩
theorem pf_st {p m : Nat} {h h' : PH} (o : Ok h p m) (f : PF h h') : St p m h h' := ⟨ok_pf o f, fun i u e _ => f i u e⟩
theorem St.pf {p m : Nat} {h h1 h2 : PH} (a : St p m h h1) (f : PF h1 h2) : St p m h h2 := a.trans (pf_st a.1 f)
theorem St.refl {p m : Nat} {h : PH} (o : Ok h p m) : St p m h h := ⟨o, Kp.refl⟩
theorem St.len {p m : Nat} {h g : PH} (s : St p m h g) : h.length ≤ g.length := by
  rcases Nat.lt_or_ge g.length h.length with l | l
  · exfalso
    have e : h[h.length - 1]? = some (h[h.length - 1]'(by omega)) := List.getElem?_eq_getElem (by omega)
    by_cases hp : h.length - 1 = p
    · have := s.1.lt
      omega
    · have := (List.getElem?_eq_some_iff.mp (s.2 _ _ e hp)).1
      omega
  · exact l
theorem draw_W [HDraw τ] {n p m : Nat} {size : Int} {h : PH} (hn : 1 ≤ n) (o : Ok h p m) (hm : m < 2 ^ 40) (hs : 0 < size) (hs2 : size < 2 ^ 60) :
    W (callN τ n (.f "_law_draw") [.ref p, .int size] h) (fun r h' => ∃ i : Int, r = .int i ∧ 0 ≤ i ∧ i < size ∧ St p (m + 1) h h') no := by
  obtain ⟨k, rfl⟩ : ∃ k, n = k + 1 := ⟨n - 1, by omega⟩
  obtain ⟨r, h', r1, r2, e, o', kp, l⟩ := draw_ok (cl := callN τ k) o (by omega) hs hs2
  exact W.of (by rw [callN_succ (t := τ) HDraw.draw]; exact e) ⟨r, rfl, r1, r2, o', kp⟩
/-- .. as a natural number -/
theorem drawN_W [HDraw τ] {n p m size : Nat} {h : PH} (hn : 1 ≤ n) (o : Ok h p m) (hm : m < 2 ^ 40) (hs : 0 < size) (hs2 : size < 2 ^ 60) :
    W (callN τ n (.f "_law_draw") [.ref p, .int (size : Nat)] h) (fun r h' => ∃ i : Nat, r = .int (i : Nat) ∧ i < size ∧ St p (m + 1) h h') no := by
  refine (draw_W hn o hm (by omega) (by omega)).use ?_
  rintro _ h' ⟨i, rfl, i0, i1, s⟩
  exact ⟨i.toNat, by rw [Int.toNat_of_nonneg i0], by omega, s⟩
theorem pick_W [HPick τ] {n p q m : Nat} {h : PH} {xs : List PV} (hn : 2 ≤ n) (o : Ok h p m) (hm : m < 2 ^ 40) (hq : h[q]? = some (.lst xs)) (ne : q ≠ p) (h0 : 0 < xs.length) (h1 : xs.length < 2 ^ 50) :
    W (callN τ n (.f "_law_pick") [.ref p, .ref q] h) (fun r h' => r ∈ xs ∧ St p (m + 1) h h') no := by
  refine W_call (by omega) HPick.pick rfl fun k hk => ?_
  simp [c__law_pick, len_lst hq]
  refine (draw_W (by omega) o hm (by omega) (by omega)).use ?_
  rintro _ h2 ⟨i, rfl, i0, i1, st⟩
  have hi : i.toNat < xs.length := by omega
  have ei : atI xs i = some xs[i.toNat] := by
    unfold atI
    rw [ixN_of i0 i1]
    simp [hi]
  rw [W_li (st.2 _ _ hq ne), ei]
  exact ⟨List.getElem_mem hi, st⟩
theorem pickS_W [HPick τ] {n p m : Nat} {h : PH} {s : List Char} (hn : 2 ≤ n) (o : Ok h p m) (hm : m < 2 ^ 40) (h0 : 0 < s.length) (h1 : s.length < 1000) :
    W (callN τ n (.f "_law_pick") [.ref p, .str s] h) (fun r h' => (∃ c, c ∈ s ∧ r = .str [c]) ∧ St p (m + 1) h h') no := by
  refine W_call (by omega) HPick.pick rfl fun k hk => ?_
  have ls : s.length ≤ szl := by simp only [szl]; omega
  simp [c__law_pick, len_str ls]
  refine (draw_W (by omega) o hm (by omega) (by omega)).use ?_
  rintro _ h2 ⟨i, rfl, i0, i1, st⟩
  have hi : i.toNat < s.length := by omega
  have ei : atI s i = some s[i.toNat] := by
    unfold atI
    rw [ixN_of i0 i1]
    simp [hi]
  simp only [idxV, if_pos ls, ei]
  exact ⟨⟨_, List.getElem_mem hi, rfl⟩, st⟩
theorem begin_W [HBeg τ] {n t : Nat} {x : Int} {h : PH} (hn : 1 ≤ n) (ht : t < 100) : W (callN τ n (.f "_law_begin") [.int x, .int t] h) (fun r h' => r = .ref h.length ∧ St h.length 0 h h') no := by
  obtain ⟨k, rfl⟩ : ∃ k, n = k + 1 := ⟨n - 1, by omega⟩
  obtain ⟨h', e, o, kp⟩ := begin_ok (cl := callN τ k) (x := x) (h := h) ht
  exact W.of (by rw [callN_succ (t := τ) HBeg.beg]; exact e) ⟨rfl, o, kp⟩
theorem its_rng {h : PH} {n : Int} (h0 : -1000 < n) (h1 : n < 1000) : itsOf .rng [.int n] h = some ⟨rngL 0 n.toNat, []⟩ := by
  have : small62 n = true := decide_eq_true (by omega)
  simp only [itsOf, this, if_true]
theorem its_rngN {h : PH} {n : Nat} (h1 : n < 1000) : itsOf .rng [.int (n : Nat)] h = some ⟨rngL 0 n, []⟩ := by
  rw [its_rng (by omega) (by omega), Int.toNat_natCast]
theorem rngL_len {lo : Int} {n : Nat} : (rngL lo n).length = n := by simp [rngL]
/-- what an alphabet is -/
structure Alp (s : List Char) : Prop where
  al : alphB s = true
  len : s.length ≤ 4
  pos : 0 < s.length
def wrd (s t : List Char) : Prop := ∀ c ∈ t, c ∈ s
theorem wrd_txt {s t : List Char} (w : wrd s t) : txtB s (.str t) = true := by
  unfold wrd at w
  simpa [txtB] using w
structure RwL (p : Nat) (h : PH) (q : Nat) (R : List (List Nat)) : Prop where
  ne : q ≠ p
  ex : ∃ qs : List Nat, h[q]? = some (.lst (qs.map .ref)) ∧ qs.length = R.length ∧ ∀ (i a : Nat) (r : List Nat), qs[i]? = some a → R[i]? = some r → a ≠ p ∧ a ≠ q ∧ h[a]? = some (.lst (intsV r))
theorem RwL.mono {p q : Nat} {h h' : PH} {R : List (List Nat)} (s : RwL p h q R) (k : Kp p h h') : RwL p h' q R := by
  obtain ⟨ne, qs, e, l, f⟩ := s
  exact ⟨ne, qs, k _ _ e ne, l, fun i a r e1 e2 => ⟨(f i a r e1 e2).1, (f i a r e1 e2).2.1, k _ _ (f i a r e1 e2).2.2 (f i a r e1 e2).1⟩⟩
@[irreducible] def rowsE : E := .lc (.lc (.call "_law_draw" [.v 0, .v 3]) (.nm 6) .val [.v 1] [] [6]) (.nm 5) .rng [.v 3] [] [5]
@[irreducible] def marksE : E := .lc (.v 7) (.nm 7) .rng [.v 3] [.cmp .eq (.call "_law_draw" [.v 0, .k (.int 2)]) (.k (.int 0))] [7]
/-- drawn states -/
def MrkP (p m many : Nat) (h : PH) (r : PV) (h' : PH) : Prop := ∃ (qa : Nat) (A : List Nat), r = .ref qa ∧ h'[qa]? = some (.lst (intsV A)) ∧ qa ≠ p ∧ h.length ≤ qa ∧ A.Pairwise (· < ·) ∧ (∀ x ∈ A, x < many) ∧ St p (m + many) h h'
end Lib
set_option linter.all false
set_option maxRecDepth 10000
namespace Lib
open Mi
def c_is_row : Fn := ⟨3, 1, [.ite (.or (.nt (.isi (.v 1) ["list", "tuple"])) (.cmp .ne (.blt "len" [.v 1]) (.blt "len" [.v 0]))) [.ret (.k (.bl false))] [],
  .ret (.blt "all" [.lc (.call "is_number" [.v 3, .k (.int 0), .bop .sub (.v 2) (.k (.int 1))]) (.nm 3) .val [.v 1] [] [3]])]⟩
def c_are_states : Fn := ⟨2, 1, [.ite (.or (.nt (.isi (.v 0) ["list", "tuple"])) (.nt (.blt "all" [.lc (.call "is_number" [.v 2, .k (.int 0), .bop .sub (.v 1) (.k (.int 1))]) (.nm 2) .val [.v 0] [] [2]]))) [.ret (.k (.bl false))] [],
  .ret (.cmp .eq (.blt "len set" [.v 0]) (.blt "len" [.v 0]))]⟩
def c_Machine____init__ : Fn := ⟨4, 2, [.ex (.call "need_letters" [.v 1]),
  .ite (.or (.nt (.isi (.v 2) ["list", "tuple"])) (.nt (.chain .le .le (.k (.int 1)) (.blt "len" [.v 2]) (.k (.int 40))))) [.raiseI "BadMachine" "index" (.k (.int 0))] [],
  .for_ (.tup [.nm 4, .nm 5]) .enumv [.v 2] [.ite (.nt (.call "is_row" [.v 1, .v 5, .blt "len" [.v 2]])) [.raiseI "BadMachine" "index" (.v 4)] []],
  .ite (.nt (.call "are_states" [.v 3, .blt "len" [.v 2]])) [.raiseI "BadMachine" "index" (.blt "len" [.v 2])] [],
  .setf (.v 0) "own_letters" (.v 1),
  .setf (.v 0) "own_rows" (.blt "tuple" [.lc (.blt "tuple" [.v 5]) (.nm 5) .val [.v 2] [] [5]]),
  .setf (.v 0) "own_accepting" (.blt "tuple" [.blt "sorted" [.v 3]])]⟩
class HRow (τ : FN → Option Fn) : Prop extends HNum τ where
  row : τ (.f "is_row") = some c_is_row
class HSts (τ : FN → Option Fn) : Prop extends HNum τ where
  sts : τ (.f "are_states") = some c_are_states
class HMake (τ : FN → Option Fn) : Prop extends HAlp τ, HRow τ, HSts τ where
  make : τ (.m "Machine" "__init__") = some c_Machine____init__
variable {τ : FN → Option Fn}
theorem ints_len {r : List Nat} : (intsV r).length = r.length := by simp [intsV]
theorem bls_true {α : Type} : ∀ l : List α, blsOf (l.map fun _ => PV.bl true) = some (l.map fun _ => true)
  | [] => rfl
  | x :: r => by simp [blsOf, bls_true r]
theorem all_true {α : Type} : ∀ l : List α, (l.map fun _ => true).all id = true
  | [] => rfl
  | x :: r => by simp
/-- all are states: what the comprehension gives -/
theorem nums_W [HNum τ] {k i j : Nat} {many : Nat} {c : PV} {r : List Nat} {h : PH} {ρ : Mi.Env} {e : E} (hk : 1 ≤ k) (sc : SeqI h c (intsV r)) (lr : r.length < 1000) (b : ∀ x ∈ r, x < many)
    (hc : ρ[j]? = some (some c)) (hi : i < ρ.length) (he : ∀ (x : Option PV) (h : PH) (Q : PV → PH → Prop) (X : EQ), W (ev (callN τ k) e ((wipeE ρ [i]).set i x) h) Q X = Q (.int ((many : Int) - 1)) h) :
    W (ev (callN τ k) (.blt "all" [.lc (.call "is_number" [.v i, .k (.int 0), e]) (.nm i) .val [.v j] [] [i]]) ρ h) (fun r g => r = .bl true ∧ PA h g) no := by
  obtain ⟨g, eg, og⟩ := sc.its
  simp only [W_blt, W_evs1, W_evs0, W_lc, W_v, hc, Option.bind_some, id, KO_some, eg]
  refine KLC_of (by rw [ints_len]; simp only [szl]; omega) ?_
  refine W_map0 (fun _ => .bl true) (og _ PF.refl) (fun x hx => ?_) ?_
  · obtain ⟨y, hy, rfl⟩ := List.mem_map.mp hx
    have e1 : ((wipeE ρ [i]).set i (some (PV.int (y : Nat))))[i]? = some (some (.int (y : Nat))) := by
      rw [List.getElem?_set_self (by simp [wipeE, hi])]
    simp only [W_cal, W_evs1, W_evs0, W_v, W_k, e1, Option.bind_some, id, KO_some, he]
    refine (num_W hk).use ?_
    rintro _ _ ⟨rfl, rfl⟩
    have := b y hy
    refine ⟨?_, rfl⟩
    congr 1
    rw [decide_eq_true_iff]
    omega
  · rw [W_all, lst_of get_new, Option.bind_some, bls_true, KO_some, all_true]
    exact ⟨rfl, PA.app⟩
theorem row_W [HRow τ] {n many : Nat} {s : List Char} {c : PV} {r : List Nat} {h : PH} (hn : 2 ≤ n) (ls : s.length < 60) (sc : SeqI h c (intsV r)) (lr : r.length = s.length) (b : ∀ x ∈ r, x < many) :
    W (callN τ n (.f "is_row") [.str s, c, .int (many : Nat)] h) (fun r g => r = .bl true ∧ PA h g) no := by
  refine W_call (by omega) HRow.row rfl fun k hk => ?_
  obtain ⟨t, et, mt⟩ := sc.ty
  have lz : s.length ≤ szl := by simp only [szl]; omega
  rw [c_is_row, W_cons]
  simp only [W_ite, W_or, W_nt, W_isi, W_v, List.map_cons, List.map_nil, List.cons_append, List.nil_append, List.getElem?_cons_zero, List.getElem?_cons_succ, Option.bind_some, id, KO_some, et, mt, decide_true, tru_bl, Bool.not_true, KA_t, Bool.not_false, W_cmp, W_blt, W_evs1, W_evs0, W_len, sc.len, len_str lz, ints_len, W_ne, eqI, lr, KI_f, W_nil, KF_nx]
  rw [W_cons, W_ret]
  refine (nums_W (by omega) sc (by omega) b rfl (by simp) fun x h Q X => by simp [wipeE]).use ?_
  rintro _ g ⟨rfl, p⟩
  exact ⟨rfl, p⟩
theorem intsOf_ints {r : List Nat} : intsOf (intsV r) = some (r.map fun x => ((x : Nat) : Int)) := by
  induction r with
  | nil => rfl
  | cons x r ih =>
    show intsOf (.int (x : Nat) :: intsV r) = _
    rw [intsOf, ih]
    rfl
theorem insU_len {x : Int} : ∀ {l : List Int}, x ∉ l → (insU x l).length = l.length + 1
  | [], _ => rfl
  | y :: r, m => by
    have m1 : x ≠ y := fun e => m (by simp [e])
    have m2 : x ∉ r := fun e => m (by simp [e])
    rw [insU]
    split
    · rfl
    · simp [insU_len m2]
theorem insU_mem {x z : Int} : ∀ {l : List Int}, z ∈ insU x l ↔ z = x ∨ z ∈ l
  | [] => by simp [insU]
  | y :: r => by
    rw [insU]
    split
    · simp
    · split
      · next e => subst e; simp
      · simp only [List.mem_cons, insU_mem (l := r)]
        constructor <;> (rintro (h | h | h) <;> simp [h])
theorem sortU_mem {z : Int} : ∀ {l : List Int}, z ∈ sortU l ↔ z ∈ l
  | [] => by simp [sortU]
  | y :: r => by rw [sortU, insU_mem, sortU_mem]; simp
theorem sortU_len : ∀ {l : List Int}, l.Nodup → (sortU l).length = l.length
  | [], _ => rfl
  | y :: r, n => by
    rw [sortU, insU_len (fun m => (List.nodup_cons.mp n).1 (sortU_mem.mp m)), sortU_len (List.nodup_cons.mp n).2]
    rfl
theorem nodup_cast {A : List Nat} (n : A.Nodup) : (A.map fun x => ((x : Nat) : Int)).Nodup := by
  rw [List.Nodup, List.pairwise_map]
  exact n.imp fun h e => h (by omega)
theorem sts_W [HSts τ] {n many : Nat} {c : PV} {A : List Nat} {h : PH} (hn : 2 ≤ n) (sc : SeqI h c (intsV A)) (nd : A.Nodup) (la : A.length < 60) (b : ∀ x ∈ A, x < many) :
    W (callN τ n (.f "are_states") [c, .int (many : Nat)] h) (fun r g => r = .bl true ∧ PA h g) no := by
  refine W_call (by omega) HSts.sts rfl fun k hk => ?_
  obtain ⟨t, et, mt⟩ := sc.ty
  rw [c_are_states, W_cons]
  simp only [W_ite, W_or, W_nt, W_isi, W_v, List.map_cons, List.map_nil, List.cons_append, List.nil_append, List.getElem?_cons_zero, List.getElem?_cons_succ, Option.bind_some, id, KO_some, et, mt, decide_true, tru_bl, Bool.not_true, KA_t, Bool.not_false]
  refine (nums_W (by omega) sc (by omega) b rfl (by simp) fun x h Q X => by simp [wipeE]).use ?_
  rintro _ g ⟨rfl, p⟩
  have s1 := sc.mono p.pf
  simp only [tru_bl, KO_some, Bool.not_true, KI_f, W_nil, KF_nx]
  rw [W_cons, W_ret]
  simp only [W_cmp, W_blt, W_evs1, W_evs0, W_v, List.getElem?_cons_zero, Option.bind_some, id, KO_some]
  have e : bltV "len set" [c] g = .ok (.int (A.length : Nat)) g := by
    simp only [bltV, s1.seq, Option.bind_some, intsOf_ints]
    rw [sortU_len (nodup_cast nd)]
    simp
    try omega
  rw [e, W_ok, W_len, s1.len, KO_some, W_eq, ints_len, eqI]
  simp
  exact p
/-- a machine is made -/
def mkV (s : List Char) (R : List (List Nat)) (A : List Nat) : List (String × PV) := [("own_letters", .str s), ("own_rows", rowsV R), ("own_accepting", .tup ((sortI (A.map fun x => ((x : Nat) : Int))).map .int))]
theorem SeqI.itsE {h : PH} {c : PV} {xs : List PV} (s : SeqI h c xs) : ∃ g, itsOf .enumv [c] h = some ⟨enumL 0 xs, g⟩ ∧ ∀ h', PF h h' → okG g h' = true := by
  rcases s with rfl | ⟨q, rfl, e⟩
  · exact ⟨[], rfl, fun _ _ => rfl⟩
  · exact ⟨[(q, .lst xs)], by simp [itsOf, ofSq, ofLst, e], fun h' p => okG_one (p _ _ e)⟩
theorem SeqI.kp {h h' : PH} {c : PV} {xs : List PV} {a : Nat} {o : PO} (s : SeqI h c xs) (ea : h[a]? = some o) (no : ∀ ys, o ≠ .lst ys) (k : Kp a h h') : SeqI h' c xs := by
  rcases s with rfl | ⟨q, rfl, e⟩
  · exact .inl rfl
  · refine .inr ⟨q, rfl, k _ _ e ?_⟩
    rintro rfl
    rw [e] at ea
    exact no _ (Option.some.inj ea).symm
/-- the rows are walked -/
theorem rows_loop [HRow τ] {k : Nat} {s : List Char} {R : List (List Nat)} {cs : List PV} {g : Gd} {v v0 w : PV} {o4 o5 : Option PV} {h : PH} (hk : 2 ≤ k) (ls : s.length < 60) (e : SeqI h v cs) (lc : cs.length = R.length)
    (f : ∀ (i : Nat) (c : PV) (r : List Nat), cs[i]? = some c → R[i]? = some r → SeqI h c (intsV r)) (ro : ∀ r ∈ R, r.length = s.length ∧ ∀ x ∈ r, x < R.length) (og : ∀ h', PF h h' → okG g h' = true) :
    W (forL g (forStep (callN τ k) (.tup [.nm 4, .nm 5]) [.ite (.nt (.call "is_row" [.v 1, .v 5, .blt "len" [.v 2]])) [.raiseI "BadMachine" "index" (.v 4)] []]) (enumL 0 cs) [some v0, some (.str s), some v, some w, o4, o5] h)
      (fun fl h' => PA h h' ∧ ∃ o4 o5, fl = .nx [some v0, some (.str s), some v, some w, o4, o5]) no := by
  refine W_forL (fun r ρ h1 => PA h h1 ∧ ∃ (i : Nat) (t : List PV) (o4 o5 : Option PV), r = enumL i t ∧ (∀ (j : Nat) (c : PV), t[j]? = some c → cs[i + j]? = some c) ∧ ρ = [some v0, some (.str s), some v, some w, o4, o5]) ?_ ?_ _ _ _ ⟨PA.refl, 0, cs, o4, o5, rfl, fun j c z => by simpa using z, rfl⟩
  · rintro x r ρ h1 ⟨p, i, t, o4, o5, er, ft, rfl⟩
    refine ⟨og _ p.pf, ?_⟩
    cases t with
    | nil => simp [enumL] at er
    | cons c t =>
      simp only [enumL, List.cons.injEq] at er
      obtain ⟨rfl, rfl⟩ := er
      have ec : cs[i]? = some c := by simpa using ft 0 c rfl
      have li : i < R.length := by
        have := (List.getElem?_eq_some_iff.mp ec).1
        omega
      have er : R[i]? = some R[i] := List.getElem?_eq_getElem li
      obtain ⟨r1, r2⟩ := ro _ (List.getElem_mem li)
      rw [W_step2]
      simp only [bindT_tup, bindTs_cons, bindTs_nil, KO_some, List.set_cons_succ, List.set_cons_zero]
      rw [W_cons]
      simp only [W_ite, W_nt, W_cal, W_evs1, W_evs0, W_v, W_blt, W_len, (e.mono p.pf).len, lc, List.getElem?_cons_succ, List.getElem?_cons_zero, Option.bind_some, id, KO_some]
      refine W.mono (row_W (n := k) hk ls ((f i c _ ec er).mono p.pf) r1 r2) ?_ (fun _ _ z => z.elim)
      rintro _ h2 ⟨rfl, p2⟩
      simp only [tru_bl, KO_some, Bool.not_true, KI_f, W_nil, KR_nx]
      refine ⟨p.trans p2, i + 1, t, _, _, rfl, fun j c' z => ?_, rfl⟩
      have := ft (j + 1) c' (by simpa using z)
      rwa [show i + 1 + j = i + (j + 1) by omega]
  · rintro ρ h1 ⟨p, i, t, o4, o5, er, ft, rfl⟩
    exact ⟨og _ p.pf, p, o4, o5, rfl⟩
theorem PA.len {h h' : PH} (p : PA h h') : h.length ≤ h'.length := by
  obtain ⟨u, rfl⟩ := p
  simp
theorem PA.kp {h h' : PH} {a : Nat} (p : PA h h') : Kp a h h' := fun i o e _ => p.pf i o e
/-- what __init__ does behind its tests -/
theorem made_tail {cl : Cl} {a : Nat} {s : List Char} {v w : PV} {cs : List PV} {rs : List (List PV)} {ns : List Int} {o4 o5 : Option PV} {h h3 : PH} (e : h[a]? = some (.ins "Machine" [])) (p : PF h h3) (sv : SeqI h v cs) (lc : cs.length < 1000) (lr : rs.length = cs.length) (f : ∀ (i : Nat) (c : PV) (r : List PV), cs[i]? = some c → rs[i]? = some r → SeqI h c r) (ms : List PV) (sw : SeqI h w ms) (mi : intsOf ms = some ns)
    {Q : PV → PH → Prop} {X : EQ} (q : ∀ g, Kp a h g → g[a]? = some (.ins "Machine" [("own_letters", .str s), ("own_rows", .tup (rs.map .tup)), ("own_accepting", .tup ((sortI ns).map .int))]) → Q .non g) :
    W (exs cl [.setf (.v 0) "own_letters" (.v 1), .setf (.v 0) "own_rows" (.blt "tuple" [.lc (.blt "tuple" [.v 5]) (.nm 5) .val [.v 2] [] [5]]), .setf (.v 0) "own_accepting" (.blt "tuple" [.blt "sorted" [.v 3]])]
      [some (.ref a), some (.str s), some v, some w, o4, o5] h3) (KE Q X) no := by
  have nl : ∀ ys, PO.ins "Machine" [] ≠ .lst ys := fun ys z => nomatch z
  have ea := p _ _ e
  have kp : Kp a h h3 := fun i o e _ => p i o e
  rw [W_cons]
  simp only [W_setf, W_v, List.getElem?_cons_succ, List.getElem?_cons_zero, Option.bind_some, id, KO_some]
  rw [W_setfI ea (by simp), KF_nx, W_cons]
  have e4 := get_set (o := PO.ins "Machine" (putFs "own_letters" (.str s) [])) ea
  have k4 : Kp a h (h3.set a (.ins "Machine" (putFs "own_letters" (.str s) []))) := kp.trans Kp.set
  generalize h3.set a (.ins "Machine" (putFs "own_letters" (.str s) [])) = h4 at *
  have sv4 := sv.kp e nl k4
  obtain ⟨g0, eg, og⟩ := sv4.its
  simp only [W_setf, W_blt, W_evs1, W_evs0, W_lc, W_v, List.getElem?_cons_succ, List.getElem?_cons_zero, Option.bind_some, id, KO_some, eg]
  refine KLC_of (by show cs.length < szl; simp only [szl]; omega) ?_
  have fc : ∀ (i : Nat) (c : PV) (r : List PV), cs[i]? = some c → rs[i]? = some r → SeqI h4 c r := fun i c r e1 e2 => (f i c r e1 e2).kp e nl k4
  refine W_lcL (fun ys r g => g = h4 ∧ ∃ i, ys = ((rs.take i).map .tup) ∧ r = cs.drop i ∧ i ≤ cs.length) ?_ ?_ _ _ ⟨rfl, 0, by simp, by simp, by omega⟩
  · rintro ys x r g ⟨rfl, i, rfl, er, li⟩
    refine ⟨og _ PF.refl, ?_⟩
    have li2 : i < cs.length := by
      rcases Nat.lt_or_ge i cs.length with l | l
      · exact l
      · rw [List.drop_eq_nil_of_le l] at er
        cases er
    rw [List.drop_eq_getElem_cons li2, List.cons.injEq] at er
    obtain ⟨rfl, rfl⟩ := er
    have ec : cs[i]? = some cs[i] := List.getElem?_eq_getElem li2
    have eR : rs[i]? = some (rs[i]'(by omega)) := List.getElem?_eq_getElem (by omega)
    have sc := fc i _ _ ec eR
    rw [W_lcStep]
    simp only [W_blt, W_evs1, W_evs0, W_v, wipe_cons, wipe_nil, List.set_cons_succ, List.set_cons_zero, List.getElem?_cons_succ, List.getElem?_cons_zero, Option.bind_some, id, KO_some, W_tuple, sc.seq]
    refine ⟨by trivial, i + 1, ?_, rfl, by omega⟩
    have et : List.take (i + 1) rs = List.take i rs ++ [rs[i]'(by omega)] := by rw [List.take_add_one, eR]; rfl
    rw [et, List.map_append]
    rfl
  · rintro ys g ⟨rfl, i, rfl, er, li⟩
    refine ⟨og _ PF.refl, ?_⟩
    have li2 : i = rs.length := by
      have := congrArg List.length er
      simp at this
      omega
    subst li2
    rw [List.take_length, W_tuple, seq_of get_new, KO_some]
    have e5 : (g ++ [PO.lst (rs.map PV.tup)])[a]? = some (.ins "Machine" (putFs "own_letters" (.str s) [])) := get_app e4
    have k5 : Kp a h (g ++ [PO.lst (rs.map PV.tup)]) := k4.trans Kp.app
    generalize g ++ [PO.lst (rs.map PV.tup)] = h5 at *
    rw [W_setfI e5 (by simp [putFs]), KF_nx, W_cons]
    have e6 := get_set (o := PO.ins "Machine" (putFs "own_rows" (.tup (rs.map PV.tup)) (putFs "own_letters" (.str s) []))) e5
    have k6 : Kp a h (h5.set a (PO.ins "Machine" (putFs "own_rows" (.tup (rs.map PV.tup)) (putFs "own_letters" (.str s) [])))) := k5.trans Kp.set
    generalize h5.set a (PO.ins "Machine" (putFs "own_rows" (.tup (rs.map PV.tup)) (putFs "own_letters" (.str s) []))) = h6 at *
    have ra6 := sw.kp e nl k6
    simp only [W_setf, W_blt, W_evs1, W_evs0, W_v, List.getElem?_cons_succ, List.getElem?_cons_zero, Option.bind_some, id, KO_some, W_sorted, ra6.seq, mi]
    rw [W_tuple, seq_of get_new, KO_some, W_setfI (get_app e6) (by simp [putFs]), KF_nx, W_nil, KE_nx]
    refine q _ ((k6.trans Kp.app).trans Kp.set) ?_
    rw [get_set (get_app e6)]
    rfl
theorem init_W [HMake τ] {n a : Nat} {s : List Char} {R : List (List Nat)} {A : List Nat} {v w : PV} {h : PH} (hn : 6 ≤ n) (o : MOk s R) (rw' : Rws h v R) (ra : SeqI h w (intsV A)) (nd : A.Nodup) (la : A.length < 60) (ba : ∀ x ∈ A, x < R.length)
    (e : h[a]? = some (.ins "Machine" [])) :
    W (callN τ n (.m "Machine" "__init__") [.ref a, .str s, v, w] h) (fun r g => r = .non ∧ Kp a h g ∧ g[a]? = some (.ins "Machine" (mkV s R A))) no := by
  refine W_call (by omega) HMake.make rfl fun k hk => ?_
  obtain ⟨cs, sq, lc, f⟩ := rw'
  rw [c_Machine____init__, W_cons]
  simp only [W_ex, W_cal, W_evs1, W_evs0, W_v, List.map_cons, List.map_nil, List.cons_append, List.nil_append, List.getElem?_cons_succ, List.getElem?_cons_zero, Option.bind_some, id, KO_some]
  refine W.mono (let_W (n := k) (by omega) o.len o.alph) ?_ (fun _ _ z => z.elim)
  rintro _ h1 p1
  have sq1 := sq.mono p1.pf
  rw [KF_nx, W_cons]
  have hp := o.pos
  have hf := o.few
  obtain ⟨t, t1, mt⟩ := sq1.ty
  have c1 : decide ((1 : Int) ≤ (R.length : Nat)) = true := decide_eq_true (by omega)
  have c2 : decide (((R.length : Nat) : Int) ≤ 40) = true := decide_eq_true (by omega)
  simp only [W_ite, W_or, W_nt, W_isi, W_v, List.getElem?_cons_zero, List.getElem?_cons_succ, Option.bind_some, id, KO_some, t1, mt, decide_true, tru_bl, Bool.not_true, KA_t, Bool.not_false, W_chain, W_k, W_blt, W_evs1, W_evs0, W_len, sq1.len, lc, W_le, c1, c2, KC_t, KI_f, W_nil, KF_nx]
  rw [W_cons]
  simp only [W_for, W_evs1, W_evs0, W_v, List.getElem?_cons_zero, List.getElem?_cons_succ, Option.bind_some, id, KO_some]
  obtain ⟨g0, eg, og⟩ := sq1.itsE
  rw [eg]
  refine KL_of ?_
  refine W.mono (rows_loop (k := k) (R := R) (by omega) o.len sq1 lc (fun i c r e1 e2 => (f i c r e1 e2).mono p1.pf) o.row og) ?_ (fun _ _ z => z.elim)
  rintro _ h2 ⟨p2, o4, o5, rfl⟩
  have p12 := p1.trans p2
  rw [KF_nx, W_cons]
  simp only [W_ite, W_nt, W_cal, W_evs1, W_evs0, W_v, W_blt, W_len, (sq.mono p12.pf).len, lc, List.getElem?_cons_succ, List.getElem?_cons_zero, Option.bind_some, id, KO_some]
  refine W.mono (sts_W (n := k) (by omega) (ra.mono p12.pf) nd la ba) ?_ (fun _ _ z => z.elim)
  rintro _ h3 ⟨rfl, p3⟩
  have p13 := p12.trans p3
  simp only [tru_bl, KO_some, Bool.not_true, KI_f, W_nil, KF_nx]
  refine made_tail (rs := R.map intsV) e p13.pf sq (by omega) (by simp [lc]) (fun i c r e1 e2 => ?_) (intsV A) ra intsOf_ints fun g k eg => ⟨rfl, k, ?_⟩
  · rw [List.getElem?_map] at e2
    cases er : R[i]? with
    | none => rw [er] at e2; cases e2
    | some r0 =>
      rw [er] at e2
      obtain rfl := Option.some.inj e2
      exact f i c r0 e1 er
  · rw [eg, mkV, rowsV, List.map_map]
    rfl
end Lib
set_option linter.all false
namespace Lib
/-- what is new stands behind -/
def push {α : Type} [DecidableEq α] (f : List α) : List α → List α
  | [] => f
  | y :: r => push (if y ∈ f then f else f ++ [y]) r
def bfs (nx : Nat → List Nat) : Nat → List Nat → Nat → List Nat
  | 0, f, _ => f
  | k + 1, f, i => match f[i]? with
    | some x => bfs nx k (push f (nx x)) (i + 1)
    | none => f
theorem push_pre {α : Type} [DecidableEq α] : ∀ (ys f : List α), ∃ t, push f ys = f ++ t
  | [], f => ⟨[], by simp [push]⟩
  | y :: r, f => by
    rw [push]
    split
    · exact push_pre r f
    · obtain ⟨t, e⟩ := push_pre r (f ++ [y])
      exact ⟨y :: t, by rw [e]; simp⟩
theorem push_mem {α : Type} [DecidableEq α] {x : α} : ∀ (ys f : List α), x ∈ push f ys ↔ x ∈ f ∨ x ∈ ys
  | [], f => by simp [push]
  | y :: r, f => by
    rw [push, push_mem r]
    split
    · rename_i h
      constructor
      · rintro (a | a)
        · exact .inl a
        · exact .inr (List.mem_cons_of_mem _ a)
      · rintro (a | a)
        · exact .inl a
        · rcases List.mem_cons.mp a with rfl | a
          · exact .inl h
          · exact .inr a
    · rw [List.mem_append, List.mem_singleton, List.mem_cons, or_assoc]
theorem nodup_le : ∀ (M : Nat) (f : List Nat), f.Nodup → (∀ x ∈ f, x < M) → f.length ≤ M
  | 0, f, _, h => by
    cases f with
    | nil => exact Nat.le_refl _
    | cons x r => exact absurd (h x (List.mem_cons_self ..)) (Nat.not_lt_zero _)
  | M + 1, f, n, h => by
    have n' : (f.erase M).Nodup := n.erase M
    have h' : ∀ x ∈ f.erase M, x < M := fun x hx => by
      have := h x (List.mem_of_mem_erase hx)
      have ne : x ≠ M := fun e => by
        subst e
        exact (List.Nodup.not_mem_erase n) hx
      omega
    have := nodup_le M _ n' h'
    by_cases hm : M ∈ f
    · rw [List.length_erase_of_mem hm] at this
      omega
    · rw [List.erase_of_not_mem hm] at this
      omega
section
variable {nx : Nat → List Nat} {M : Nat}
/-- closed up to i -/
def ClU (nx : Nat → List Nat) (f : List Nat) (i : Nat) : Prop := ∀ j x, j < i → f[j]? = some x → ∀ y ∈ nx x, y ∈ f
theorem ClU.step {f : List Nat} {i x : Nat} (c : ClU nx f i) (e : f[i]? = some x) : ClU nx (push f (nx x)) (i + 1) := by
  obtain ⟨t, et⟩ := push_pre (nx x) f
  have hi := (List.getElem?_eq_some_iff.mp e).1
  intro j z hj ez y hy
  rw [push_mem]
  rw [et, List.getElem?_append_left (by omega)] at ez
  by_cases hji : j = i
  · subst hji
    rw [e] at ez
    injection ez with ez
    subst ez
    exact .inr hy
  · exact .inl (c j z (by omega) ez y hy)
structure Bfs (nx : Nat → List Nat) (M : Nat) (f0 f : List Nat) : Prop where
  pre : ∃ t, f = f0 ++ t
  nd : f.Nodup
  lt : ∀ x ∈ f, x < M
  cl : ∀ x ∈ f, ∀ y ∈ nx x, y ∈ f
/-- from one -/
def reach (nx : Nat → List Nat) (M a : Nat) : List Nat := bfs nx (M + 1) [a] 0
end
end Lib
set_option linter.all false
namespace Lib
/-- the first place -/
def idx {α : Type} [DecidableEq α] (x : α) : List α → Nat
  | [] => 0
  | y :: r => if y = x then 0 else idx x r + 1
theorem idx_get {α : Type} [DecidableEq α] {x : α} : ∀ {l : List α}, x ∈ l → l[idx x l]? = some x
  | [], h => by simp at h
  | y :: r, h => by
    unfold idx
    by_cases e : y = x
    · rw [if_pos e, e]; rfl
    · rw [if_neg e]
      rcases List.mem_cons.mp h with z | z
      · exact absurd z.symm e
      · exact idx_get z
theorem idx_inj {α : Type} [DecidableEq α] {x y : α} {l : List α} (hx : x ∈ l) (hy : y ∈ l) (e : idx x l = idx y l) : x = y := by
  have h1 := idx_get hx
  have h2 := idx_get hy
  rw [e, h2] at h1
  exact (Option.some.inj h1).symm
theorem sub_le {α : Type} [DecidableEq α] : ∀ {l m : List α}, l.Nodup → (∀ x ∈ l, x ∈ m) → l.length ≤ m.length
  | [], _, _, _ => Nat.zero_le _
  | x :: r, m, n, h => by
    rw [List.nodup_cons] at n
    have hx := h x (List.mem_cons_self ..)
    have := sub_le (l := r) (m := m.erase x) n.2 fun y hy => (List.mem_erase_of_ne (fun e => n.1 (by rw [← e]; exact hy))).mpr (h y (List.mem_cons_of_mem _ hy))
    rw [List.length_erase_of_mem hx] at this
    have := List.length_pos_of_mem hx
    rw [List.length_cons]
    omega
/-- how many classes -/
def cnt (b : Nat → Nat) (S : List Nat) : Nat := (push [] (S.map b)).length
section
variable {b b' : Nat → Nat} {S : List Nat}
/-- b' tells apart what b tells apart -/
def Fin (b' b : Nat → Nat) (S : List Nat) : Prop := ∀ s, s ∈ S → ∀ t, t ∈ S → b' s = b' t → b s = b t
end
section
variable (nx : Nat → List Nat) (mk : Nat → Bool) (S : List Nat)
def kf (b : Nat → Nat) (s : Nat) : List Nat := b s :: (nx s).map b
def rnd (b : Nat → Nat) (s : Nat) : Nat := idx (kf nx b s) (push [] (S.map (kf nx b)))
def blk : Nat → Nat → (Nat → Nat) → Nat → Nat
  | 0, _, b => b
  | k + 1, many, b => if many ≠ cnt b S then blk k (cnt b S) (rnd nx S b) else b
/-- where a word of places leads -/
def wk : Nat → List Nat → Nat
  | s, [] => s
  | s, j :: w => wk ((nx s).getD j 0) w
/-- accepted from both, or from none -/
def alike (L : Nat) (s t : Nat) : Prop := ∀ w, (∀ j ∈ w, j < L) → mk (wk nx s w) = mk (wk nx t w)
structure Gr (L : Nat) : Prop where
  len : ∀ s ∈ S, (nx s).length = L
  cl : ∀ s ∈ S, ∀ t ∈ nx s, t ∈ S
/-- the marks are told apart; what is alike is not -/
structure Half (L : Nat) (b : Nat → Nat) : Prop where
  f1 : ∀ s ∈ S, ∀ t ∈ S, b s = b t → mk s = mk t
  f3 : ∀ s ∈ S, ∀ t ∈ S, alike nx mk L s t → b s = b t
structure Blk (L : Nat) (b : Nat → Nat) : Prop extends Half nx mk S L b where
  f2 : ∀ s ∈ S, ∀ t ∈ S, b s = b t → (nx s).map b = (nx t).map b
end
section
variable {nx : Nat → List Nat} {mk : Nat → Bool} {S : List Nat} {L : Nat} {b : Nat → Nat}
theorem kf_mem {s : Nat} (hs : s ∈ S) : kf nx b s ∈ push [] (S.map (kf nx b)) := (push_mem _ _).mpr (.inr (List.mem_map_of_mem hs))
theorem rnd_eq {s t : Nat} (hs : s ∈ S) (ht : t ∈ S) : rnd nx S b s = rnd nx S b t ↔ kf nx b s = kf nx b t :=
  ⟨fun e => idx_inj (kf_mem hs) (kf_mem ht) e, fun e => by unfold rnd; rw [e]⟩
theorem rnd_fin : Fin (rnd nx S b) b S := fun s hs t ht e => by
  have := (rnd_eq hs ht).mp e
  unfold kf at this
  injection this
theorem alike.next {s t j : Nat} (h : alike nx mk L s t) (hj : j < L) : alike nx mk L ((nx s).getD j 0) ((nx t).getD j 0) := fun w hw => h (j :: w) fun i hi => by
  rcases List.mem_cons.mp hi with rfl | hi
  · exact hj
  · exact hw i hi
theorem map_alike (g : Gr nx S L) (f3 : ∀ s ∈ S, ∀ t ∈ S, alike nx mk L s t → b s = b t) {s t : Nat} (hs : s ∈ S) (ht : t ∈ S) (h : alike nx mk L s t) : (nx s).map b = (nx t).map b := by
  have l1 := g.len s hs
  have l2 := g.len t ht
  apply List.ext_getElem (by rw [List.length_map, List.length_map, l1, l2])
  intro j h1 h2
  rw [List.length_map] at h1 h2
  rw [List.getElem_map, List.getElem_map]
  have a := h.next (j := j) (by omega)
  have d : ∀ (l : List Nat) (hj : j < l.length), l.getD j 0 = l[j] := fun l hj => by simp [List.getD, hj]
  rw [d _ h1, d _ h2] at a
  exact f3 _ (g.cl s hs _ (List.getElem_mem h1)) _ (g.cl t ht _ (List.getElem_mem h2)) a
theorem Half.rnd (g : Gr nx S L) (h : Half nx mk S L b) : Half nx mk S L (Lib.rnd nx S b) where
  f1 := fun s hs t ht e => h.f1 s hs t ht (rnd_fin s hs t ht e)
  f3 := fun s hs t ht a => (rnd_eq hs ht).mpr (by unfold kf; rw [h.f3 s hs t ht a, map_alike g h.f3 hs ht a])
end
end Lib
set_option linter.all false
namespace Lib
section
variable {nx : Nat → List Nat} {M : Nat}
theorem wk_app : ∀ (v w : List Nat) (s : Nat), wk nx s (v ++ w) = wk nx (wk nx s v) w
  | [], _, _ => rfl
  | j :: v, w, s => wk_app v w _
/-- there is a word that leads there -/
def To (nx : Nat → List Nat) (L a x : Nat) : Prop := ∃ w, (∀ j ∈ w, j < L) ∧ wk nx a w = x
theorem To.step {L a x y : Nat} (h : To nx L a x) (hl : (nx x).length = L) (hy : y ∈ nx x) : To nx L a y := by
  obtain ⟨w, h1, h2⟩ := h
  obtain ⟨j, hj⟩ := List.mem_iff_getElem?.mp hy
  have lj := (List.getElem?_eq_some_iff.mp hj).1
  refine ⟨w ++ [j], fun i hi => ?_, ?_⟩
  · rcases List.mem_append.mp hi with z | z
    · exact h1 i z
    · rw [List.mem_singleton] at z
      omega
  · rw [wk_app, h2]
    show (nx x).getD j 0 = y
    simp [List.getD, hj]
theorem bfs_to {L a : Nat} (hl : ∀ x, x < M → (nx x).length = L) (hM : ∀ x, x < M → ∀ y ∈ nx x, y < M) : ∀ (k : Nat) (f : List Nat) (i : Nat), (∀ x ∈ f, x < M ∧ To nx L a x) → ∀ x ∈ bfs nx k f i, x < M ∧ To nx L a x
  | 0, f, i, h => h
  | k + 1, f, i, h => by
    rw [bfs]
    split
    · rename_i x e
      obtain ⟨h1, h2⟩ := h x (List.mem_of_getElem? e)
      exact bfs_to hl hM k _ _ fun z hz => by
        rcases (push_mem _ _).mp hz with q | q
        · exact h z q
        · exact ⟨hM x h1 z q, h2.step (hl x h1) q⟩
    · exact h
theorem reach_to {L a : Nat} (hl : ∀ x, x < M → (nx x).length = L) (hM : ∀ x, x < M → ∀ y ∈ nx x, y < M) (ha : a < M) : ∀ x ∈ reach nx M a, To nx L a x := fun x hx =>
  (bfs_to hl hM _ _ _ (fun z hz => by
    rw [List.mem_singleton] at hz
    subst hz
    exact ⟨ha, [], fun _ h => absurd h (by simp), rfl⟩) x hx).2
end
/-- a least machine of n states in order: rows of L places -/
structure Canon (nx : Nat → List Nat) (mk : Nat → Bool) (n L : Nat) : Prop where
  pos : 0 < n
  len : ∀ x, x < n → (nx x).length = L
  lt : ∀ x, x < n → ∀ y ∈ nx x, y < n
  ord : reach nx n 0 = List.range n
  apart : ∀ p, p < n → ∀ q, q < n → alike nx mk L p q → p = q
section
variable {nx nx' : Nat → List Nat} {mk mk' : Nat → Bool} {n n' L : Nat}
theorem Canon.to (c : Canon nx mk n L) {x : Nat} (h : x < n) : To nx L 0 x := reach_to c.len c.lt c.pos x (by rw [c.ord]; exact List.mem_range.mpr h)
/-- across two machines -/
def across (nx nx' : Nat → List Nat) (mk mk' : Nat → Bool) (L p q : Nat) : Prop := ∀ w, (∀ j ∈ w, j < L) → mk (wk nx p w) = mk' (wk nx' q w)
theorem across.next {p q j : Nat} (h : across nx nx' mk mk' L p q) (hj : j < L) : across nx nx' mk mk' L ((nx p).getD j 0) ((nx' q).getD j 0) := fun w hw => h (j :: w) fun i hi => by
  rcases List.mem_cons.mp hi with rfl | hi
  · exact hj
  · exact hw i hi
theorem across.wk {p q : Nat} (h : across nx nx' mk mk' L p q) (w : List Nat) (hw : ∀ j ∈ w, j < L) : across nx nx' mk mk' L (Lib.wk nx p w) (Lib.wk nx' q w) := fun v hv => by
  rw [← wk_app, ← wk_app]
  exact h (w ++ v) fun j hj => (List.mem_append.mp hj).elim (hw j) (hv j)
end
end Lib
set_option linter.all false
namespace Lib
section
variable (nx : Nat → List Nat) (mk : Nat → Bool) (S : List Nat) (b : Nat → Nat)
/-- the class graph -/
def inx (c : Nat) : List Nat := match S.find? fun s => decide (b s = c) with
  | some s => (nx s).map b
  | none => []
def imk (c : Nat) : Bool := match S.find? fun s => decide (b s = c) with
  | some s => mk s
  | none => false
def rowsB (O : List Nat) : List (List Nat) := O.map fun c => (inx nx S b c).map fun d => idx d O
def accB (O : List Nat) : List Nat := (O.filter (imk mk S b)).map fun c => idx c O
end
/-- rows as a graph -/
def gr (R : List (List Nat)) (q : Nat) : List Nat := (R[q]?).getD []
section
variable {nx : Nat → List Nat} {mk : Nat → Bool} {S : List Nat} {b : Nat → Nat} {L Mb a : Nat}
structure Red (nx : Nat → List Nat) (mk : Nat → Bool) (S : List Nat) (b : Nat → Nat) (a L : Nat) (O : List Nat) : Prop where
  nd : O.Nodup
  im : ∀ c ∈ O, ∃ s, s ∈ S ∧ b s = c
  mem : ∀ s ∈ S, b s ∈ O
  beg : idx (b a) O = 0
  row : ∀ s ∈ S, gr (rowsB nx S b O) (idx (b s) O) = (nx s).map fun t => idx (b t) O
  acc : ∀ s ∈ S, (decide (idx (b s) O ∈ accB mk S b O)) = mk s
  can : Canon (gr (rowsB nx S b O)) (fun q => decide (q ∈ accB mk S b O)) O.length L
end
end Lib
set_option linter.all false
set_option maxRecDepth 10000
namespace Lib
open Mi
def c_order_of : Fn := ⟨2, 4, [.asg (.nm 2) (.lst [.v 1]),
  .asg (.nm 3) (.dsp [.v 1, .k (.bl true)]),
  .asg (.nm 4) (.k (.int 0)),
  .while_ (.cmp .lt (.v 4) (.blt "len" [.v 2])) [.for_ (.nm 5) .val [.idx (.v 0) (.idx (.v 2) (.v 4))] [.ite (.cmp .notin (.v 5) (.v 3)) [.seti (.v 3) (.v 5) (.k (.bl true)),
  .ex (.mth "append" (.v 2) [.v 5])] []],
  .aug 4 false (.k (.int 1))],
  .ret (.v 2)]⟩
class HOrd (τ : FN → Option Fn) : Prop where
  ord : τ (.f "order_of") = some c_order_of
variable {τ : FN → Option Fn}
/-- what is reached from each -/
def GA (h : PH) (v : PV) (nx : Nat → List Nat) (M : Nat) : Prop := ∀ q, q < M → ∃ c, (∀ g, PF h g → W (idxV v (.int (q : Nat)) g) (fun r g' => r = c ∧ g' = g) no) ∧ SeqI h c (intsV (nx q))
def seenV (f : List Nat) : List (PV × PV) := f.map fun x => (.int (x : Nat), .bl true)
theorem look_seen {y : Nat} : ∀ {f : List Nat}, (lookK (.int (y : Nat)) (seenV f)).isSome = decide (y ∈ f)
  | [] => rfl
  | x :: r => by
    show (lookK _ ((PV.int (x : Nat), PV.bl true) :: seenV r)).isSome = _
    unfold lookK
    by_cases e : x = y
    · subst e
      simp
    · rw [if_neg (by simp; omega), look_seen (f := r)]
      simp [Ne.symm e]
theorem put_seen {y : Nat} {f : List Nat} (h : y ∉ f) : putK (.int (y : Nat)) (.bl true) (seenV f) = seenV (f ++ [y]) := by
  unfold putK
  rw [if_neg]
  · simp [seenV]
  · simp only [seenV, List.any_map, List.any_eq_true, Function.comp_apply, decide_eq_true_eq, not_exists, not_and, PV.int.injEq]
    intro x hx e
    exact h (by have : x = y := by omega
                rw [← this]; exact hx)
end Lib
set_option linter.all false
set_option maxRecDepth 10000
namespace Lib
open Mi
def c_blocks_of : Fn := ⟨3, 7, [.asg (.nm 3) (.dc (.v 7) (.blt "int" [.idx (.v 1) (.v 7)]) (.nm 7) .val [.v 2] [] [7]),
  .asg (.nm 4) (.k (.int 0)),
  .while_ (.cmp .ne (.v 4) (.blt "len set" [.blt "list values" [.v 3]])) [.asg (.nm 4) (.blt "len set" [.blt "list values" [.v 3]]),
  .asg (.nm 5) (.dct [] []),
  .asg (.nm 6) (.dct [] []),
  .for_ (.nm 7) .val [.v 2] [.asg (.nm 8) (.tups [.idx (.v 3) (.v 7)] (.lc (.idx (.v 3) (.v 9)) (.nm 9) .val [.idx (.v 0) (.v 7)] [] [9])),
  .ite (.cmp .notin (.v 8) (.v 5)) [.seti (.v 5) (.v 8) (.blt "len" [.v 5])] [],
  .seti (.v 6) (.v 7) (.idx (.v 5) (.v 8))],
  .asg (.nm 3) (.v 6)],
  .ret (.v 3)]⟩
class HBlk (τ : FN → Option Fn) : Prop where
  blk : τ (.f "blocks_of") = some c_blocks_of
variable {τ : FN → Option Fn}
theorem PF.len {h g : PH} (p : PF h g) : h.length ≤ g.length := by
  rcases Nat.lt_or_ge g.length h.length with l | l
  · exfalso
    have e : h[h.length - 1]? = some (h[h.length - 1]'(by omega)) := List.getElem?_eq_getElem (by omega)
    have := (List.getElem?_eq_some_iff.mp (p _ _ e)).1
    omega
  · exact l
theorem PF.set {h g : PH} {a : Nat} {o : PO} (p : PF h g) (l : h.length ≤ a) : PF h (g.set a o) := fun i u e => by
  have := (List.getElem?_eq_some_iff.mp e).1
  rw [List.getElem?_set_ne (by omega)]
  exact p i u e
theorem PF.add {h g u : PH} (p : PF h g) : PF h (g ++ u) := p.trans PF.app
section
variable {h : PH} {a k : Nat} {l : List (Nat × PV)} {v : PV} {Q : PV → PH → Prop} {X : EQ}
end
theorem insU_nodup {x : Int} : ∀ {l : List Int}, l.Pairwise (· < ·) → (insU x l).Pairwise (· < ·)
  | [], _ => by simp [insU]
  | y :: r, p => by
    obtain ⟨p1, p2⟩ := List.pairwise_cons.mp p
    rw [insU]
    split
    · rename_i h
      refine List.pairwise_cons.mpr ⟨fun z hz => ?_, p⟩
      rcases List.mem_cons.mp hz with rfl | hz
      · exact h
      · have := p1 z hz
        omega
    · split
      · exact p
      · refine List.pairwise_cons.mpr ⟨fun z hz => ?_, insU_nodup p2⟩
        rcases insU_mem.mp hz with rfl | hz
        · omega
        · exact p1 z hz
theorem sortU_asc : ∀ (l : List Int), (sortU l).Pairwise (· < ·)
  | [] => List.Pairwise.nil
  | x :: r => by rw [sortU]; exact insU_nodup (sortU_asc r)
end Lib
set_option linter.all false
set_option maxRecDepth 10000
namespace Lib
open Mi
variable {τ : FN → Option Fn}
section
variable {h : PH} {a : Nat} {KS : List (List Nat)} {k : List Nat}
end
/-- what marks give -/
def MA (h : PH) (w : PV) (mk : Nat → Bool) (M : Nat) : Prop := ∀ q, q < M → ∀ g, PF h g → idxV w (.int (q : Nat)) g = .ok (.bl (mk q)) g
theorem MA.mono {h g : PH} {w : PV} {mk : Nat → Bool} {M : Nat} (a : MA h w mk M) (p : PF h g) : MA g w mk M := fun q hq g' p' => a q hq g' (p.trans p')
theorem GA.mono {h g : PH} {w : PV} {nx : Nat → List Nat} {M : Nat} (a : GA h w nx M) (p : PF h g) : GA g w nx M := fun q hq => by
  obtain ⟨c, h1, h2⟩ := a q hq
  exact ⟨c, fun g' p' => h1 g' (p.trans p'), h2.mono p⟩
theorem GA.get {h : PH} {v : PV} {nx : Nat → List Nat} {M q : Nat} (a : GA h v nx M) (hq : q < M) : ∃ c, (∀ g, PF h g → idxV v (.int (q : Nat)) g = .ok c g) ∧ SeqI h c (intsV (nx q)) := by
  obtain ⟨c, h1, h2⟩ := a q hq
  refine ⟨c, fun g p => ?_, h2⟩
  obtain ⟨a, h', e, rfl, rfl⟩ := (h1 g p).get
  exact e
theorem W_okI {α : Type} {r : R α} {a : α} {h : PH} {Q : α → PH → Prop} {X : EQ} (e : r = .ok a h) : W r Q X = Q a h := by rw [e]; rfl
end Lib
set_option linter.all false
set_option maxRecDepth 10000
namespace Mk14
open Mi Lib
def kN : List Char := ['n', 'o', 'n', 'e']
def kE : List Char := ['e', 'm', 'p', 't', 'y']
def kL : List Char := ['l', 'e', 't', 't', 'e', 'r']
def kA : List Char := ['a', 'n', 'y']
/-- a list or a dict -/
def lk (h : PH) (a : Nat) : Bool := match h[a]? with
  | some (.lst _) => true
  | some (.frz _) => true
  | some (.dic _) => true
  | _ => false
mutual
def rfB (h : PH) : PV → Bool
  | .ref a => lk h a
  | .tup xs => rfBs h xs
  | _ => true
def rfBs (h : PH) : List PV → Bool
  | [] => true
  | x :: r => rfB h x && rfBs h r
end
def Lks (h h' : PH) : Prop := ∀ a, lk h a = true → lk h' a = true
theorem Lks.refl {h : PH} : Lks h h := fun _ z => z
theorem Lks.trans {h h1 h2 : PH} (a : Lks h h1) (b : Lks h1 h2) : Lks h h2 := fun n z => b n (a n z)
theorem Lks.app {h g : PH} : Lks h (h ++ g) := fun a z => by
  unfold lk at z ⊢
  cases e : h[a]? with
  | none => rw [e] at z; cases z
  | some o =>
    rw [get_app e]
    rw [e] at z
    exact z
mutual
theorem rfB_mono {h h' : PH} (l : Lks h h') : ∀ v : PV, rfB h v = true → rfB h' v = true
  | .ref a, z => by
    simp only [rfB] at z ⊢
    exact l a z
  | .tup xs, z => by
    simp only [rfB] at z ⊢
    exact rfBs_mono l xs z
  | .non, _ => by simp [rfB]
  | .bl _, _ => by simp [rfB]
  | .int _, _ => by simp [rfB]
  | .str _, _ => by simp [rfB]
theorem rfBs_mono {h h' : PH} (l : Lks h h') : ∀ v : List PV, rfBs h v = true → rfBs h' v = true
  | [], _ => by simp [rfBs]
  | x :: r, z => by
    simp only [rfBs, Bool.and_eq_true] at z ⊢
    exact ⟨rfB_mono l x z.1, rfBs_mono l r z.2⟩
end
/-- what isinstance asks -/
inductive Kind (v : PV) (t : String) : Prop
  | tup (xs : List PV) (e : v = .tup xs) (et : t = "tuple")
  | str (s : List Char) (e : v = .str s) (et : t = "str")
  | els (e1 : t ≠ "tuple") (e2 : t ≠ "str") (n1 : ∀ xs, v ≠ .tup xs) (n2 : ∀ s, v ≠ .str s)
theorem ty_rf {h : PH} {v : PV} (r : rfB h v = true) : ∃ t, tyN v h = some t ∧ Kind v t := by
  cases v with
  | non => exact ⟨_, rfl, .els (by decide) (by decide) (fun _ z => nomatch z) (fun _ z => nomatch z)⟩
  | bl b => exact ⟨_, rfl, .els (by decide) (by decide) (fun _ z => nomatch z) (fun _ z => nomatch z)⟩
  | int b => exact ⟨_, rfl, .els (by decide) (by decide) (fun _ z => nomatch z) (fun _ z => nomatch z)⟩
  | str s => exact ⟨_, rfl, .str s rfl rfl⟩
  | tup xs => exact ⟨_, rfl, .tup xs rfl rfl⟩
  | ref n =>
    simp only [rfB, lk] at r
    split at r
    · next xs e => exact ⟨"list", by simp [tyN, e], .els (by decide) (by decide) (fun _ z => nomatch z) (fun _ z => nomatch z)⟩
    · next xs e => exact ⟨"list", by simp [tyN, e], .els (by decide) (by decide) (fun _ z => nomatch z) (fun _ z => nomatch z)⟩
    · next xs e => exact ⟨"dict", by simp [tyN, e], .els (by decide) (by decide) (fun _ z => nomatch z) (fun _ z => nomatch z)⟩
    · cases r
/-- a node, its parts set aside -/
def nodeB (abc : List Char) : PV → Bool
  | .tup (.str k :: inner) => match lookK (.str k) kv_SIZES with
    | some (.int s) => decide ((inner.length : Int) + 1 = s) && (decide (k ≠ kL) || (match inner with
      | .str [c] :: _ => decide (c ∈ abc)
      | _ => false))
    | _ => false
  | _ => false
def kids : PV → List PV
  | .tup (.str k :: inner) => if k = kN ∨ k = kE ∨ k = kL ∨ k = kA then [] else inner
  | _ => []
def sumN : List Nat → Nat
  | [] => 0
  | x :: r => x + sumN r
def szP (abc : List Char) : Nat → PV → Option Nat
  | 0, _ => none
  | n + 1, v => if nodeB abc v then (mapO (szP abc n) (kids v)).map fun l => 1 + sumN l else none
@[simp] theorem ev_tup0 {h : PH} {xs : List PV} : eqV (.tup xs) (.tup []) h = some xs.isEmpty := by
  simp [eqV, dicStr, empEq, emp]
@[simp] theorem inS1 {h : PH} {c : Char} {t : List Char} : inV (.str [c]) (.str t) h = some (decide (c ∈ t)) := rfl
/-- texts are short -/
def shS : PV → Bool
  | .tup (_ :: .str s :: _) => decide (s.length ≤ szl)
  | _ => true
theorem look_sizes {s : List Char} {z : PV} (e : lookK (.str s) kv_SIZES = some z) : ∃ i : Int, z = .int i ∧ (s = kL → i = 2) ∧ (s = kN ∨ s = kE ∨ s = kA → i = 1) ∧ 1 ≤ i ∧ i ≤ 3 := by
  simp only [kv_SIZES, lookK] at e
  repeat' split at e
  all_goals first
    | (rename_i q
       injection e with e
       subst e
       injection q with q
       subst q
       exact ⟨_, rfl, by decide, by decide, by decide, by decide⟩)
    | cases e
theorem node_W {n : Nat} {abc : List Char} {v : PV} {h : PH} (hn : 1 ≤ n) (r : rfB h v = true) (sh : shS v = true) :
    W (callN tab n (.f "is_node") [.str abc, v] h) (fun r h' => r = .bl (nodeB abc v) ∧ h' = h) no := by
  refine W_call hn rfl rfl fun k hk => ?_
  simp [c_is_node]
  obtain ⟨t, et, kd⟩ := ty_rf r
  rw [et]
  cases kd with
  | str s e e2 =>
    subst e e2
    simp [nodeB]
  | els e1 e2 n1 n2 =>
    simp [e1]
    cases v with
    | tup xs => exact absurd rfl (n1 xs)
    | _ => rfl
  | tup xs e e2 =>
    subst e e2
    simp
    cases xs with
    | nil => simp [nodeB]
    | cons x r2 =>
      simp
      simp only [rfB, rfBs, Bool.and_eq_true] at r
      obtain ⟨t2, et2, kd2⟩ := ty_rf r.1
      rw [et2]
      cases kd2 with
      | els e1 e2 n1 n2 =>
        simp [e2]
        cases x with
        | str s => exact absurd rfl (n2 s)
        | _ => rfl
      | tup ys e e2 =>
        subst e e2
        simp [nodeB]
      | str s e e2 =>
        subst e e2
        simp
        refine ⟨rfl, ?_⟩
        cases e : lookK (.str s) kv_SIZES with
        | none => simp [nodeB, e]
        | some z =>
          obtain ⟨i, rfl, i1, i2, i3, i4⟩ := look_sizes e
          simp [e, isS]
          by_cases hl : ((r2.length : Int) + 1 = i)
          · simp [hl]
            by_cases hs : s = kL
            · have := i1 hs
              subst hs
              have e' : lookK (.str ['l', 'e', 't', 't', 'e', 'r']) kv_SIZES = some (.int i) := e
              simp [kL]
              cases r2 with
              | nil => simp at hl; omega
              | cons y r3 =>
                simp
                simp only [rfBs, Bool.and_eq_true] at r
                obtain ⟨t3, et3, kd3⟩ := ty_rf r.2.1
                rw [et3]
                cases kd3 with
                | els e1 e2 n1 n2 =>
                  simp [e2]
                  cases y with
                  | str s => exact absurd rfl (n2 s)
                  | _ => simp [nodeB, e', hl, kL]
                | tup ys e1 e2 =>
                  subst e1 e2
                  simp [nodeB, e', hl, kL]
                | str w e1 e2 =>
                  subst e1 e2
                  simp only [shS, decide_eq_true_eq] at sh
                  simp [len_str sh]
                  match w with
                  | [] => simp [nodeB, e', hl, kL]
                  | [c] =>
                    simp [nodeB, e', hl, kL]
                    intro _
                    simpa using hl
                  | c :: d :: t =>
                    have no1 : ¬ ((t.length : Int) + 1 + 1 = 1) := by omega
                    simp [nodeB, e', hl, kL, no1]
            · simp only [kL] at hs
              simp [hs, nodeB, e, hl, kL]
          · simp [hl, nodeB, e]
end Mk14
set_option linter.all false
set_option maxRecDepth 10000
namespace Mk14
open Mi Lib
theorem kids_tup {k : List Char} {inner : List PV} : kids (.tup (.str k :: inner)) = if k = kN ∨ k = kE ∨ k = kL ∨ k = kA then [] else inner := rfl
theorem node_inv {abc : List Char} {v : PV} (e : nodeB abc v = true) : ∃ k inner, v = .tup (.str k :: inner) ∧ inner.length ≤ 2 := by
  unfold nodeB at e
  split at e
  · rename_i k inner
    refine ⟨k, inner, rfl, ?_⟩
    split at e
    · rename_i i ei
      obtain ⟨j, e1, _, _, _, h3⟩ := look_sizes ei
      injection e1 with e1
      subst e1
      rw [Bool.and_eq_true] at e
      have := of_decide_eq_true e.1
      omega
    · cases e
  · cases e
theorem kids_len {abc : List Char} {v : PV} (e : nodeB abc v = true) : (kids v).length ≤ 2 := by
  obtain ⟨k, inner, rfl, l⟩ := node_inv e
  rw [kids_tup]
  split
  · simp
  · exact l
theorem inner_W {n : Nat} {k : List Char} {inner : List PV} {h : PH} (hn : 1 ≤ n) :
    W (callN tab n (.f "inner_parts") [.tup (.str k :: inner)] h) (fun r h' => r = .tup (kids (.tup (.str k :: inner))) ∧ h' = h) no := by
  refine W_call hn rfl rfl fun m hm => ?_
  simp [c_inner_parts]
  have e : inV (.str k) (.tup [.str ['n', 'o', 'n', 'e'], .str ['e', 'm', 'p', 't', 'y'], .str ['l', 'e', 't', 't', 'e', 'r'], .str ['a', 'n', 'y']]) h = some (decide (k = kN ∨ k = kE ∨ k = kL ∨ k = kA)) := by
    simp only [inV, mapO, den_str, anyEq, D.eqv, Bool.or_false]
    congr 1
    rw [Bool.eq_iff_iff]
    simp only [Bool.or_eq_true, beq_iff_eq, decide_eq_true_eq, kN, kE, kL, kA]
    constructor
    · intro z
      refine decide_eq_true ?_
      rcases z with z | z | z | z
      · exact .inl z.symm
      · exact .inr (.inl z.symm)
      · exact .inr (.inr (.inl z.symm))
      · exact .inr (.inr (.inr z.symm))
    · intro z
      have z := of_decide_eq_true z
      rcases z with z | z | z | z
      · exact .inl z.symm
      · exact .inr (.inl z.symm)
      · exact .inr (.inr (.inl z.symm))
      · exact .inr (.inr (.inr z.symm))
  rw [e]
  by_cases hk : k = kN ∨ k = kE ∨ k = kL ∨ k = kA
  · simp [hk, kids_tup, szl]
  · simp [hk, kids_tup]
/-- what is left to look at -/
def tot (abc : List Char) : List (PV × Nat) → Option Nat
  | [] => some 0
  | (v, d) :: r => match szP abc (16 - d) v, tot abc r with
    | some a, some b => some (a + b)
    | _, _ => none
theorem tot_app {abc : List Char} : ∀ {xs ys : List (PV × Nat)}, tot abc (xs ++ ys) = match tot abc xs, tot abc ys with
    | some a, some b => some (a + b)
    | _, _ => none
  | [], ys => by
    simp only [List.nil_append, tot]
    cases tot abc ys <;> simp
  | (v, d) :: r, ys => by
    rw [List.cons_append, tot, tot, tot_app]
    cases szP abc (16 - d) v <;> cases tot abc r <;> cases tot abc ys <;> simp
    omega
theorem tot_kids {abc : List Char} {d : Nat} : ∀ xs : List PV, tot abc (xs.map fun x => (x, d)) = (mapO (szP abc (16 - d)) xs).map sumN
  | [] => rfl
  | x :: r => by
    rw [List.map_cons, tot, tot_kids r, mapO]
    cases szP abc (16 - d) x <;> cases mapO (szP abc (16 - d)) r <;> simp [sumN]
/-- yes: all are patterns, and few -/
def yes (abc : List Char) (parts : Nat) (l : List (PV × Nat)) : Bool := match tot abc l with
  | some t => decide (parts + t ≤ 60)
  | none => false
def encL (l : List (PV × Nat)) : List PV := l.map fun p => .tup [p.1, .int p.2]
theorem szP_pos {abc : List Char} {n : Nat} {v : PV} {k : Nat} (e : szP abc n v = some k) : 1 ≤ k := by
  cases n with
  | zero => simp [szP] at e
  | succ n =>
    rw [szP] at e
    split at e
    · simp at e
      obtain ⟨l, _, e⟩ := e
      omega
    · cases e
/-- parts of things have these too -/
inductive Fine (h : PH) : PV → Prop
  | mk {v : PV} (r : rfB h v = true) (s : shS v = true) (k : ∀ x ∈ kids v, Fine h x) : Fine h v
theorem Fine.mono {h h' : PH} (l : Lks h h') {v : PV} (f : Fine h v) : Fine h' v := by
  induction f with
  | mk r s k ih => exact .mk (rfB_mono l _ r) s ih
end Mk14
set_option linter.all false
set_option maxRecDepth 10000
namespace Mk14
open Mi Lib
theorem _root_.Lib.PF.lks {h h' : PH} (a : PF h h') : Lks h h' := fun i z => by
  unfold lk at z ⊢
  cases e : h[i]? with
  | none => rw [e] at z; cases z
  | some o =>
    rw [a i o e]
    rw [e] at z
    exact z
theorem lks_set {h : PH} {q : Nat} {xs ys : List PV} (e : h[q]? = some (.lst xs)) : Lks h (h.set q (.lst ys)) := fun i z => by
  unfold lk at z ⊢
  by_cases hi : i = q
  · subst hi
    rw [get_set e]
  · rw [List.getElem?_set_ne fun z => hi z.symm]
    exact z
def Al (abc : List Char) : Prop := ∀ (n : Nat) (h : PH), 3 ≤ n → W (callN tab n (.f "need_letters") [.str abc] h) (fun _ h' => ∃ u, h' = h ++ u) no
theorem encL_app {xs ys : List (PV × Nat)} : encL (xs ++ ys) = encL xs ++ encL ys := by simp [encL]
/-- the list that is worked on -/
structure Lp (abc : List Char) (h0 : PH) (R : Bool) (n : Nat) (ρ : Env) (h : PH) : Prop where
  ex : ∃ (v : PV) (q parts : Nat) (l : List (PV × Nat)) (o4 o5 : Option PV), ρ = [some (.str abc), some v, some (.ref q), some (.int (parts : Nat)), o4, o5, none] ∧ h[q]? = some (.lst (encL l)) ∧ PF h0 h ∧ h0.length ≤ q ∧ n = 61 - parts ∧ parts ≤ 60 ∧ l.length ≤ parts + 1 ∧ (∀ p ∈ l, Fine h p.1) ∧ yes abc parts l = R
theorem emp_ne {h : PH} {q : Nat} {xs : List PV} (e : h[q]? = some (.lst xs)) : eqV (.ref q) (.ref h.length) (h ++ [.lst []]) = some xs.isEmpty := by
  simp [eqV, dicStr, empEq, emp, get_app e]
theorem yes_step {abc : List Char} {parts : Nat} {l : List (PV × Nat)} {v : PV} {d : Nat} (hd : d ≤ 15) (hp : parts + 1 ≤ 60) (nb : nodeB abc v = true) : yes abc parts (l ++ [(v, d)]) = yes abc (parts + 1) (l ++ (kids v).map fun x => (x, d + 1)) := by
  unfold yes
  rw [tot_app, tot_app, tot_kids, tot, tot]
  obtain ⟨k, hk⟩ : ∃ k, 16 - d = k + 1 := ⟨15 - d, by omega⟩
  have hk2 : 16 - (d + 1) = k := by omega
  rw [hk, hk2, szP, if_pos nb]
  cases tot abc l with
  | none => simp
  | some a =>
    cases mapO (szP abc k) (kids v) with
    | none => simp
    | some ms =>
      simp only [Option.map_some, Nat.add_zero]
      congr 1
      apply propext
      omega
theorem yes_no {abc : List Char} {parts : Nat} {l : List (PV × Nat)} {v : PV} {d : Nat} (c : 15 < d ∨ 60 < parts + 1 ∨ nodeB abc v = false) : yes abc parts (l ++ [(v, d)]) = false := by
  unfold yes
  rw [tot_app, tot, tot]
  cases tot abc l with
  | none => rfl
  | some a =>
    cases e : szP abc (16 - d) v with
    | none => rfl
    | some b =>
      have hb := szP_pos e
      rcases c with c | c | c
      · have : 16 - d = 0 := by omega
        rw [this] at e
        simp [szP] at e
      · simp
        omega
      · obtain ⟨k, hk⟩ : ∃ k, 16 - d = k + 1 := by
          cases hd : 16 - d with
          | zero => rw [hd] at e; simp [szP] at e
          | succ k => exact ⟨k, rfl⟩
        rw [hk, szP, c] at e
        simp at e
theorem pattern_W {n : Nat} {abc : List Char} {v : PV} {h : PH} (al : Al abc) (hn : 4 ≤ n) (f : Fine h v) :
    W (callN tab n (.f "is_pattern") [.str abc, v] h) (fun r h' => r = .bl (yes abc 0 [(v, 1)]) ∧ PF h h') no := by
  refine W_call (by omega) rfl rfl fun k hk => ?_
  simp [c_is_pattern, -List.length_append, -List.append_assoc]
  refine (al k h (by omega)).use ?_
  rintro _ _ ⟨u, rfl⟩
  simp [szl, -List.length_append, -List.append_assoc]
  rw [W_whl]
  generalize hK : KF _ _ _ _ = K
  refine W_while (Lp abc h (yes abc 0 [(v, 1)])) ?_ 61 wfuel _ _ (by decide) ⟨v, (h ++ u).length, 0, [(v, 1)], none, none, rfl, get_new, PF.app.trans PF.app, by simp, by simp, by simp, by simp, ?_, rfl⟩
  · rintro N ρ h1 ⟨v', q, parts, l, o4, o5, rfl, hq, pf, lq, eN, hp, hl, fl, ey⟩
    simp only [tst, W_bind]
    simp [-List.length_append, -List.append_assoc]
    rw [emp_ne hq]
    simp [-List.length_append, -List.append_assoc]
    rcases List.eq_nil_or_concat l with rfl | ⟨l', p, rfl⟩
    · -- nothing is left
      simp only [encL, List.map_nil, List.isEmpty_nil, Bool.not_true, Bool.false_eq_true, if_false]
      subst hK
      simp [-List.length_append, -List.append_assoc]
      refine ⟨?_, pf.trans PF.app⟩
      rw [← ey]
      simp [yes, tot, hp]
    · obtain ⟨w, d⟩ := p
      have hq2 := get_app (g := [.lst []]) hq
      rw [List.concat_eq_append] at *
      simp only [encL_app] at hq hq2 ⊢
      rw [if_neg (by simp [encL])]
      refine ⟨(mok_l hq2).2.2, ?_⟩
      have hq3 : (h1 ++ [PO.lst []])[q]? = some (.lst (encL l' ++ [.tup [w, .int (d : Nat)]])) := hq2
      rw [W_pop hq3]
      simp [-List.length_append, -List.append_assoc]
      have fw := fl (w, d) (by simp)
      have pf2 : PF h ((h1 ++ [PO.lst []]).set q (.lst (encL l'))) := (pf.trans PF.app).set lq
      have lk2 : Lks h1 ((h1 ++ [PO.lst []]).set q (.lst (encL l'))) := Lks.app.trans (lks_set hq3)
      have hq4 : ((h1 ++ [PO.lst []]).set q (.lst (encL l')))[q]? = some (.lst (encL l')) := get_set hq3
      generalize eh2 : ((h1 ++ [PO.lst []]).set q (.lst (encL l'))) = h2 at pf2 lk2 hq4 ⊢
      have fin : (15 < d ∨ 60 < parts + 1 ∨ nodeB abc w = false) → yes abc 0 [(v, 1)] = false := fun c => by rw [← ey, yes_no c]
      by_cases hd : 15 < d
      · have : (15 : Int) < (d : Int) := by omega
        simp [this]
        subst hK
        simp
        exact ⟨fin (.inl hd), pf2⟩
      · have : ¬ (15 : Int) < (d : Int) := by omega
        simp [this]
        by_cases hpp : 60 < parts + 1
        · have : (60 : Int) < (parts : Int) + 1 := by omega
          simp [this]
          subst hK
          simp
          exact ⟨fin (.inr (.inl hpp)), pf2⟩
        · have : ¬ (60 : Int) < (parts : Int) + 1 := by omega
          simp [this]
          obtain ⟨fr, fs, fk⟩ := fw
          refine (node_W (by omega) (rfB_mono lk2 _ fr) fs).use ?_
          rintro _ h2 ⟨rfl, rfl⟩
          cases nb : nodeB abc w with
          | false =>
            simp
            subst hK
            simp
            exact ⟨fin (.inr (.inr nb)), pf2⟩
          | true =>
            simp
            refine ⟨(mok_l hq4).2.1, ?_⟩
            have kl := kids_len nb
            obtain ⟨kk, inner, rfl, il⟩ := node_inv nb
            refine (inner_W (by omega)).use ?_
            rintro _ h2 ⟨rfl, rfl⟩
            rw [its_tup]
            refine KLC_of (by simp only [szl]; omega) ?_
            refine W_map0 (fun x => .tup [x, .int (d + 1 : Nat)]) rfl (fun x hx => ?_) ?_
            · simp [szl]
            · have ee : (kids (.tup (.str kk :: inner))).map (fun x => PV.tup [x, .int (d + 1 : Nat)]) = encL ((kids (.tup (.str kk :: inner))).map fun x => (x, d + 1)) := by simp [encL]
              rw [ee]
              have hq5 := get_app (g := [.lst (encL ((kids (.tup (.str kk :: inner))).map fun x => (x, d + 1)))]) hq4
              rw [W_ext hq5 get_new]
              refine ⟨by simp [encL, szl] at hl kl ⊢; omega, N - 1, by omega, v', q, parts + 1, l' ++ (kids (.tup (.str kk :: inner))).map (fun x => (x, d + 1)), some (.tup (.str kk :: inner)), some (.int d), by simp, ?_, (pf2.trans PF.app).set lq, lq, by omega, by omega, by simp at hl ⊢; omega, ?_, ?_⟩
              · rw [get_set hq5, encL_app]
              · intro p hp2
                have lk3 : Lks h1 ((h2 ++ [PO.lst (encL ((kids (.tup (.str kk :: inner))).map fun x => (x, d + 1)))]).set q (.lst (encL l' ++ encL ((kids (.tup (.str kk :: inner))).map fun x => (x, d + 1))))) := (lk2.trans Lks.app).trans (lks_set hq5)
                rcases List.mem_append.mp hp2 with z | z
                · exact (fl p (List.mem_append_left _ z)).mono lk3
                · obtain ⟨x, hx, rfl⟩ := List.mem_map.mp z
                  exact (fk x hx).mono lk3
              · rw [← yes_step (by omega) (by omega) nb, ey]
  · intro p hp
    simp at hp
    subst hp
    exact f.mono (PF.app.trans PF.app).lks
end Mk14
set_option linter.all false
set_option maxRecDepth 10000
namespace Mk14
open Mi Lib
def kNot : List Char := ['n', 'o', 't']
def kSt : List Char := ['s', 't', 'a', 'r']
def kJ : List Char := ['j', 'o', 'i', 'n']
def kO : List Char := ['o', 'r']
def kAn : List Char := ['a', 'n', 'd']
inductive Pt where
  | non | emp | any | let_ (c : Char) | not_ (a : Pt) | star (a : Pt) | join (a b : Pt) | or_ (a b : Pt) | and_ (a b : Pt)
deriving DecidableEq
def enc : Pt → PV
  | .non => .tup [.str kN]
  | .emp => .tup [.str kE]
  | .any => .tup [.str kA]
  | .let_ c => .tup [.str kL, .str [c]]
  | .not_ a => .tup [.str kNot, enc a]
  | .star a => .tup [.str kSt, enc a]
  | .join a b => .tup [.str kJ, enc a, enc b]
  | .or_ a b => .tup [.str kO, enc a, enc b]
  | .and_ a b => .tup [.str kAn, enc a, enc b]
def sz : Pt → Nat
  | .not_ a | .star a => 1 + sz a
  | .join a b | .or_ a b | .and_ a b => 1 + sz a + sz b
  | _ => 1
def dep : Pt → Nat
  | .not_ a | .star a => 1 + dep a
  | .join a b | .or_ a b | .and_ a b => 1 + max (dep a) (dep b)
  | _ => 1
def wf (abc : List Char) : Pt → Bool
  | .let_ c => decide (c ∈ abc)
  | .not_ a | .star a => wf abc a
  | .join a b | .or_ a b | .and_ a b => wf abc a && wf abc b
  | _ => true
theorem enc_tup (t : Pt) : ∃ k r, enc t = .tup (.str k :: r) := by cases t <;> exact ⟨_, _, rfl⟩
theorem szP_enc {abc : List Char} : ∀ {t : Pt} {m : Nat}, wf abc t = true → dep t ≤ m → szP abc m (enc t) = some (sz t) := by
  intro t
  induction t with
  | non => intro m w d; cases m with
    | zero => simp [dep] at d
    | succ m => simp [szP, enc, nodeB, lookK, kv_SIZES, kids, kL, kN, kE, kA, mapO, sumN, sz]
  | emp => intro m w d; cases m with
    | zero => simp [dep] at d
    | succ m => simp [szP, enc, nodeB, lookK, kv_SIZES, kids, kL, kN, kE, kA, mapO, sumN, sz]
  | any => intro m w d; cases m with
    | zero => simp [dep] at d
    | succ m => simp [szP, enc, nodeB, lookK, kv_SIZES, kids, kL, kN, kE, kA, mapO, sumN, sz]
  | let_ c => intro m w d; cases m with
    | zero => simp [dep] at d
    | succ m =>
      have w : c ∈ abc := by simpa [wf] using w
      simp [szP, enc, nodeB, lookK, kv_SIZES, kids, kL, kN, kE, kA, mapO, sumN, sz, w]
  | not_ a ia => intro m w d; cases m with
    | zero => simp [dep] at d
    | succ m =>
      have e := ia (m := m) (by simpa [wf] using w) (by simp only [dep] at d; omega)
      simp [szP, enc, nodeB, lookK, kv_SIZES, kids, kL, kN, kE, kA, kNot, mapO, sumN, sz, e]
  | star a ia => intro m w d; cases m with
    | zero => simp [dep] at d
    | succ m =>
      have e := ia (m := m) (by simpa [wf] using w) (by simp only [dep] at d; omega)
      simp [szP, enc, nodeB, lookK, kv_SIZES, kids, kL, kN, kE, kA, kSt, mapO, sumN, sz, e]
  | join a b ia ib => intro m w d; cases m with
    | zero => simp [dep] at d
    | succ m =>
      simp only [wf, Bool.and_eq_true] at w
      have e := ia (m := m) w.1 (by simp only [dep] at d; omega)
      have e2 := ib (m := m) w.2 (by simp only [dep] at d; omega)
      simp [szP, enc, nodeB, lookK, kv_SIZES, kids, kL, kN, kE, kA, kJ, mapO, sumN, sz, e, e2]
      omega
  | or_ a b ia ib => intro m w d; cases m with
    | zero => simp [dep] at d
    | succ m =>
      simp only [wf, Bool.and_eq_true] at w
      have e := ia (m := m) w.1 (by simp only [dep] at d; omega)
      have e2 := ib (m := m) w.2 (by simp only [dep] at d; omega)
      simp [szP, enc, nodeB, lookK, kv_SIZES, kids, kL, kN, kE, kA, kO, mapO, sumN, sz, e, e2]
      omega
  | and_ a b ia ib => intro m w d; cases m with
    | zero => simp [dep] at d
    | succ m =>
      simp only [wf, Bool.and_eq_true] at w
      have e := ia (m := m) w.1 (by simp only [dep] at d; omega)
      have e2 := ib (m := m) w.2 (by simp only [dep] at d; omega)
      simp [szP, enc, nodeB, lookK, kv_SIZES, kids, kL, kN, kE, kA, kAn, mapO, sumN, sz, e, e2]
      omega
theorem rf_enc {h : PH} (t : Pt) : rfB h (enc t) = true := by
  induction t with
  | not_ a ia => simp [enc, rfB, rfBs, ia]
  | star a ia => simp [enc, rfB, rfBs, ia]
  | join a b ia ib => simp [enc, rfB, rfBs, ia, ib]
  | or_ a b ia ib => simp [enc, rfB, rfBs, ia, ib]
  | and_ a b ia ib => simp [enc, rfB, rfBs, ia, ib]
  | _ => simp [enc, rfB, rfBs]
theorem fine_enc {h : PH} (t : Pt) : Fine h (enc t) := by
  have shS_of : ∀ (k : PV) (a : Pt) (r : List PV), shS (.tup (k :: enc a :: r)) = true := by
    intro k a r
    obtain ⟨x, y, e⟩ := enc_tup a
    rw [e]
    rfl
  induction t with
  | non => exact .mk (rf_enc _) rfl fun x hx => by simp [enc, kids, kN, kE, kL, kA] at hx
  | emp => exact .mk (rf_enc _) rfl fun x hx => by simp [enc, kids, kN, kE, kL, kA] at hx
  | any => exact .mk (rf_enc _) rfl fun x hx => by simp [enc, kids, kN, kE, kL, kA] at hx
  | let_ c => exact .mk (rf_enc _) (by simp [enc, shS, szl]) fun x hx => by simp [enc, kids, kN, kE, kL, kA] at hx
  | not_ a ia =>
    refine .mk (rf_enc _) (shS_of _ a _) fun x hx => ?_
    simp [enc, kids, kN, kE, kL, kA, kNot] at hx
    subst hx
    exact ia
  | star a ia =>
    refine .mk (rf_enc _) (shS_of _ a _) fun x hx => ?_
    simp [enc, kids, kN, kE, kL, kA, kSt] at hx
    subst hx
    exact ia
  | join a b ia ib =>
    refine .mk (rf_enc _) (shS_of _ a _) fun x hx => ?_
    simp [enc, kids, kN, kE, kL, kA, kJ] at hx
    rcases hx with rfl | rfl
    · exact ia
    · exact ib
  | or_ a b ia ib =>
    refine .mk (rf_enc _) (shS_of _ a _) fun x hx => ?_
    simp [enc, kids, kN, kE, kL, kA, kO] at hx
    rcases hx with rfl | rfl
    · exact ia
    · exact ib
  | and_ a b ia ib =>
    refine .mk (rf_enc _) (shS_of _ a _) fun x hx => ?_
    simp [enc, kids, kN, kE, kL, kA, kAn] at hx
    rcases hx with rfl | rfl
    · exact ia
    · exact ib
theorem yes_1 {abc : List Char} {v : PV} : yes abc 0 [(v, 1)] = match szP abc 15 v with
    | some k => decide (k ≤ 60)
    | none => false := by
  unfold yes
  rw [tot, tot]
  cases szP abc 15 v with
  | none => rfl
  | some k => simp
theorem need_W2 {abc : List Char} {v : PV} {n : Nat} {h : PH} (al : Al abc) (hn : 5 ≤ n) (f : Fine h v) :
    W (callN tab n (.f "need_pattern") [.str abc, v] h) (fun _ h' => yes abc 0 [(v, 1)] = true ∧ PF h h') (fun x h' => yes abc 0 [(v, 1)] = false ∧ x = ⟨"BadPattern", []⟩ ∧ PF h h') := by
  refine W_call (by omega) rfl rfl fun k hk => ?_
  simp [c_need_pattern]
  refine (pattern_W al (by omega) f).use ?_
  rintro _ h2 ⟨rfl, pf⟩
  cases yes abc 0 [(v, 1)] with
  | true => simpa using pf
  | false =>
    simp [szl]
    exact pf
theorem kcn_enc (t : Pt) : ∀ n, kcn n (enc t) = enc t := by
  induction t with
  | not_ a ia => intro n; cases n with
    | zero => rfl
    | succ n => simp [enc, kcn, ia]
  | star a ia => intro n; cases n with
    | zero => rfl
    | succ n => simp [enc, kcn, ia]
  | join a b ia ib => intro n; cases n with
    | zero => rfl
    | succ n => simp [enc, kcn, ia, ib]
  | or_ a b ia ib => intro n; cases n with
    | zero => rfl
    | succ n => simp [enc, kcn, ia, ib]
  | and_ a b ia ib => intro n; cases n with
    | zero => rfl
    | succ n => simp [enc, kcn, ia, ib]
  | _ => intro n; cases n <;> simp [enc, kcn]
theorem tkIn_enc : ∀ {t : Pt} {n : Nat}, dep t ≤ n → tkIn n (enc t) = true := by
  intro t
  induction t with
  | not_ a ia => intro n d; simp only [dep] at d; cases n with
    | zero => omega
    | succ n => simp [enc, tkIn, ia (n := n) (by omega)]
  | star a ia => intro n d; simp only [dep] at d; cases n with
    | zero => omega
    | succ n => simp [enc, tkIn, ia (n := n) (by omega)]
  | join a b ia ib => intro n d; simp only [dep] at d; cases n with
    | zero => omega
    | succ n => simp [enc, tkIn, ia (n := n) (by omega), ib (n := n) (by omega)]
  | or_ a b ia ib => intro n d; simp only [dep] at d; cases n with
    | zero => omega
    | succ n => simp [enc, tkIn, ia (n := n) (by omega), ib (n := n) (by omega)]
  | and_ a b ia ib => intro n d; simp only [dep] at d; cases n with
    | zero => omega
    | succ n => simp [enc, tkIn, ia (n := n) (by omega), ib (n := n) (by omega)]
  | _ => intro n d; simp only [dep] at d; cases n with
    | zero => omega
    | succ n => simp [enc, tkIn]
theorem enc_inj : ∀ {a b : Pt}, enc a = enc b → a = b := by
  intro a
  induction a with
  | not_ a ia => intro b e; cases b <;> simp [enc, kN, kE, kA, kL, kNot, kSt, kJ, kO, kAn] at e; rw [ia e]
  | star a ia => intro b e; cases b <;> simp [enc, kN, kE, kA, kL, kNot, kSt, kJ, kO, kAn] at e; rw [ia e]
  | join a b ia ib => intro c e; cases c <;> simp [enc, kN, kE, kA, kL, kNot, kSt, kJ, kO, kAn] at e; rw [ia e.1, ib e.2]
  | or_ a b ia ib => intro c e; cases c <;> simp [enc, kN, kE, kA, kL, kNot, kSt, kJ, kO, kAn] at e; rw [ia e.1, ib e.2]
  | and_ a b ia ib => intro c e; cases c <;> simp [enc, kN, kE, kA, kL, kNot, kSt, kJ, kO, kAn] at e; rw [ia e.1, ib e.2]
  | let_ c => intro b e; cases b <;> simp [enc, kN, kE, kA, kL, kNot, kSt, kJ, kO, kAn] at e; rw [e]
  | _ => intro b e; cases b <;> simp [enc, kN, kE, kA, kL, kNot, kSt, kJ, kO, kAn] at e ⊢
/-- any number of parts, the first of at least one letter -/
def stB (f : List Char → Bool) : Nat → List Char → Bool
  | 0, w => w.isEmpty
  | n + 1, w => ((List.range w.length).any fun k => f (w.take (k + 1)) && stB f n (w.drop (k + 1))) || w.isEmpty
def mt : Pt → List Char → Bool
  | .non, _ => false
  | .emp, w => w.isEmpty
  | .any, w => decide (w.length = 1)
  | .let_ c, w => decide (w = [c])
  | .not_ a, w => !mt a w
  | .star a, w => stB (mt a) w.length w
  | .join a b, w => (List.range (w.length + 1)).any fun k => mt a (w.take k) && mt b (w.drop k)
  | .or_ a b, w => mt a w || mt b w
  | .and_ a b, w => mt a w && mt b w
theorem stB_more {f : List Char → Bool} : ∀ {n m : Nat} {w : List Char}, w.length ≤ n → w.length ≤ m → stB f n w = stB f m w := by
  intro n
  induction n with
  | zero =>
    intro m w h1 h2
    have e : w = [] := List.eq_nil_of_length_eq_zero (by omega)
    subst e
    cases m <;> simp [stB]
  | succ n ih =>
    intro m w h1 h2
    cases m with
    | zero =>
      have e : w = [] := List.eq_nil_of_length_eq_zero (by omega)
      subst e
      simp [stB]
    | succ m =>
      simp only [stB]
      congr 1
      rw [Bool.eq_iff_iff]
      simp only [List.any_eq_true, Bool.and_eq_true, List.mem_range]
      constructor
      · rintro ⟨k, hk, a, b⟩
        exact ⟨k, hk, a, by rw [← ih (by rw [List.length_drop]; omega) (by rw [List.length_drop]; omega)]; exact b⟩
      · rintro ⟨k, hk, a, b⟩
        exact ⟨k, hk, a, by rw [ih (m := m) (by rw [List.length_drop]; omega) (by rw [List.length_drop]; omega)]; exact b⟩
theorem mt_star {a : Pt} {w : List Char} : mt (.star a) w = (((List.range w.length).any fun k => mt a (w.take (k + 1)) && mt (.star a) (w.drop (k + 1))) || w.isEmpty) := by
  cases w with
  | nil => simp [mt, stB]
  | cons c r =>
    show stB (mt a) (r.length + 1) (c :: r) = _
    simp only [stB]
    congr 1
    rw [Bool.eq_iff_iff]
    simp only [List.any_eq_true, Bool.and_eq_true, List.mem_range]
    have z : ∀ k, stB (mt a) r.length ((c :: r).drop (k + 1)) = mt (.star a) ((c :: r).drop (k + 1)) := fun k => stB_more (by rw [List.length_drop]; simp) (Nat.le_refl _)
    simp only [z]
/-- the piece from b to e -/
def seg (t : List Char) (b e : Nat) : List Char := (t.drop b).take (e - b)
section
variable {t : List Char} {b m e : Nat}
theorem seg_len (h1 : b ≤ e) (h2 : e ≤ t.length) : (seg t b e).length = e - b := by
  unfold seg
  rw [List.length_take, List.length_drop]
  omega
theorem seg_take (h1 : b ≤ m) (h2 : m ≤ e) : (seg t b e).take (m - b) = seg t b m := by
  unfold seg
  rw [List.take_take]
  congr 1
  omega
theorem seg_drop (h1 : b ≤ m) (h2 : m ≤ e) : (seg t b e).drop (m - b) = seg t m e := by
  unfold seg
  rw [List.drop_take, List.drop_drop]
  congr 1
  · omega
  · congr 1
    omega
theorem seg_all : seg t 0 t.length = t := by simp [seg]
theorem seg_self : seg t b b = [] := by simp [seg]
/-- the ends of the pieces from b on that match, ascending -/
def En (t : List Char) (p : Pt) (b : Nat) : List Nat := (List.range (t.length + 1)).filter fun e => decide (b ≤ e) && mt p (seg t b e)
theorem mem_En {p : Pt} : e ∈ En t p b ↔ e ≤ t.length ∧ b ≤ e ∧ mt p (seg t b e) = true := by
  unfold En
  rw [List.mem_filter, List.mem_range, Bool.and_eq_true, decide_eq_true_eq]
  exact ⟨fun ⟨a, c, d⟩ => ⟨by omega, c, d⟩, fun ⟨a, c, d⟩ => ⟨by omega, c, d⟩⟩
theorem En_asc {p : Pt} : (En t p b).Pairwise (· < ·) := List.Pairwise.filter _ List.pairwise_lt_range
theorem En_len {p : Pt} : (En t p b).length ≤ t.length + 1 := by
  unfold En
  refine Nat.le_trans (List.length_filter_le _ _) ?_
  rw [List.length_range]
  exact Nat.le_refl _
theorem asc_ext : ∀ {a b : List Nat}, a.Pairwise (· < ·) → b.Pairwise (· < ·) → (∀ k, k ∈ a ↔ k ∈ b) → a = b
  | [], [], _, _, _ => rfl
  | [], y :: t, _, _, h => by have := (h y).mpr List.mem_cons_self; cases this
  | x :: r, [], _, _, h => by have := (h x).mp List.mem_cons_self; cases this
  | x :: r, y :: t, ha, hb, h => by
    obtain ⟨a1, a2⟩ := List.pairwise_cons.mp ha
    obtain ⟨b1, b2⟩ := List.pairwise_cons.mp hb
    have e : x = y := by
      rcases List.mem_cons.mp ((h x).mp List.mem_cons_self) with e | hx
      · exact e
      · rcases List.mem_cons.mp ((h y).mpr List.mem_cons_self) with e | hy
        · exact e.symm
        · have := a1 y hy; have := b1 x hx; omega
    subst e
    refine congrArg (x :: ·) (asc_ext a2 b2 fun k => ⟨fun hk => ?_, fun hk => ?_⟩)
    · rcases List.mem_cons.mp ((h k).mp (List.mem_cons_of_mem _ hk)) with e | hk'
      · have := a1 k hk; omega
      · exact hk'
    · rcases List.mem_cons.mp ((h k).mpr (List.mem_cons_of_mem _ hk)) with e | hk'
      · have := b1 k hk; omega
      · exact hk'
theorem mt_join {p q : Pt} (h1 : b ≤ e) (h2 : e ≤ t.length) : mt (.join p q) (seg t b e) = true ↔ ∃ m, m ∈ En t p b ∧ e ∈ En t q m := by
  simp only [mt, List.any_eq_true, List.mem_range, Bool.and_eq_true, seg_len h1 h2, mem_En]
  constructor
  · rintro ⟨k, hk, a, c⟩
    have e1 : k = (b + k) - b := by omega
    rw [e1, seg_take (by omega) (by omega)] at a
    rw [e1, seg_drop (by omega) (by omega)] at c
    exact ⟨b + k, ⟨by omega, by omega, a⟩, by omega, by omega, c⟩
  · rintro ⟨m, ⟨a1, a2, a3⟩, _, c2, c3⟩
    refine ⟨m - b, by omega, ?_, ?_⟩
    · rw [seg_take a2 c2]; exact a3
    · rw [seg_drop a2 c2]; exact c3
inductive Rch (t : List Char) (p : Pt) : Nat → Nat → Prop
  | here (b : Nat) : Rch t p b b
  | step {b m e : Nat} (h : m ∈ En t p b) (r : Rch t p m e) : Rch t p b e
theorem Rch.le {p : Pt} (r : Rch t p b e) : b ≤ e := by
  induction r with
  | here => exact Nat.le_refl _
  | step h _ ih => exact Nat.le_trans (mem_En.mp h).2.1 ih
theorem Rch.snoc {p : Pt} (r : Rch t p b m) (h : e ∈ En t p m) : Rch t p b e := by
  induction r with
  | here => exact .step h (.here _)
  | step h1 _ ih => exact .step h1 (ih h)
theorem mt_rch {p : Pt} : ∀ (n : Nat) {b e : Nat}, e - b ≤ n → b ≤ e → e ≤ t.length → (mt (.star p) (seg t b e) = true ↔ Rch t p b e) := by
  intro n
  induction n with
  | zero =>
    intro b e h0 h1 h2
    have : b = e := by omega
    subst this
    rw [seg_self]
    exact ⟨fun _ => .here _, fun _ => by simp [mt, stB]⟩
  | succ n ih =>
    intro b e h0 h1 h2
    rw [mt_star]
    simp only [Bool.or_eq_true, List.any_eq_true, List.mem_range, Bool.and_eq_true, seg_len h1 h2]
    constructor
    · rintro (⟨k, hk, a, c⟩ | z)
      · have e1 : k + 1 = (b + k + 1) - b := by omega
        rw [e1, seg_take (by omega) (by omega)] at a
        rw [e1, seg_drop (by omega) (by omega)] at c
        exact .step (mem_En.mpr ⟨by omega, by omega, a⟩) ((ih (by omega) (by omega) h2).mp c)
      · have l := seg_len h1 h2 (t := t)
        rw [List.isEmpty_iff] at z
        rw [z] at l
        have : b = e := by simp at l; omega
        subst this
        exact .here _
    · intro r
      have key : ∀ {b e}, Rch t p b e → e ≤ t.length → b = e ∨ ∃ m, b < m ∧ m ∈ En t p b ∧ Rch t p m e := by
        intro b e r
        induction r with
        | here => exact fun _ => .inl rfl
        | @step b m e h r ihr =>
          intro le
          by_cases hb : b = m
          · subst hb
            exact ihr le
          · exact .inr ⟨m, by have := (mem_En.mp h).2.1; omega, h, r⟩
      rcases key r h2 with rfl | ⟨m, hm, hp, hr⟩
      · right
        rw [seg_self]
        rfl
      · left
        have le := hr.le
        have e1 : m - b - 1 + 1 = m - b := by omega
        refine ⟨m - b - 1, by omega, ?_, ?_⟩
        · rw [e1, seg_take (by omega) le]
          exact (mem_En.mp hp).2.2
        · rw [e1, seg_drop (by omega) le]
          exact (ih (by omega) le h2).mpr hr
theorem En_star {p : Pt} (hb : b ≤ t.length) : e ∈ En t (.star p) b ↔ e ≤ t.length ∧ Rch t p b e := by
  rw [mem_En]
  constructor
  · rintro ⟨h1, h2, h3⟩
    exact ⟨h1, (mt_rch _ (Nat.le_refl _) h2 h1).mp h3⟩
  · rintro ⟨h1, h2⟩
    exact ⟨h1, h2.le, (mt_rch _ (Nat.le_refl _) h2.le h1).mpr h2⟩
theorem En_join {p q : Pt} : e ∈ En t (.join p q) b ↔ ∃ m, m ∈ En t p b ∧ e ∈ En t q m := by
  rw [mem_En]
  constructor
  · rintro ⟨h1, h2, h3⟩
    exact (mt_join h2 h1).mp h3
  · rintro ⟨m, h1, h2⟩
    obtain ⟨a1, a2, a3⟩ := mem_En.mp h1
    obtain ⟨c1, c2, c3⟩ := mem_En.mp h2
    exact ⟨c1, by omega, (mt_join (by omega) c1).mpr ⟨m, h1, h2⟩⟩
end
end Mk14
set_option linter.all false
set_option maxRecDepth 10000
namespace Mk14
open Mi Lib
section
variable {h : PH} {s a b c : List Char}
theorem in_two : inV (.str s) (.tup [.str a, .str b]) h = some (decide (s = a ∨ s = b)) := by
  simp only [inV, mapO, den_str, anyEq, D.eqv, Bool.or_false]
  congr 1
  rw [Bool.eq_iff_iff]
  simp only [Bool.or_eq_true, beq_iff_eq, decide_eq_true_eq]
  exact or_congr eq_comm eq_comm
theorem in_three : inV (.str s) (.tup [.str a, .str b, .str c]) h = some (decide (s = a ∨ s = b ∨ s = c)) := by
  simp only [inV, mapO, den_str, anyEq, D.eqv, Bool.or_false]
  congr 1
  rw [Bool.eq_iff_iff]
  simp only [Bool.or_eq_true, beq_iff_eq, decide_eq_true_eq]
  exact or_congr eq_comm (or_congr eq_comm eq_comm)
end
/-- for i in range(..): if c: return True -/
theorem find_for {cl : Cl} {c : E} {ρ : Env} {h : PH} {lo : Int} {n : Nat} {C : Nat → Bool} {y : Option PV} {Q : Fl → PH → Prop} {X : EQ}
    (hC : ∀ j, j < n → W (ev cl c (ρ.set 3 (some (.int (lo + (j : Nat))))) h) (fun r h' => r = .bl (C j) ∧ h' = h) no)
    (q1 : (List.range n).any C = true → Q (.rt (.bl true)) h) (q2 : (List.range n).any C = false → ∀ x, Q (.nx (ρ.set 3 x)) h) :
    KL cl (.nm 3) [.ite c [.ret (.k (.bl true))] []] (ρ.set 3 y) h Q X (some ⟨rngL lo n, []⟩) := by
  refine KL_of (W_forL (fun r ρ' h' => h' = h ∧ ∃ j x, r = ((List.range n).drop j).map (fun i => PV.int (lo + (i : Nat))) ∧ j ≤ n ∧ (∀ i, i < j → C i = false) ∧ ρ' = ρ.set 3 x) ?_ ?_ _ _ _ ⟨rfl, 0, y, rfl, Nat.zero_le _, fun i hi => absurd hi (Nat.not_lt_zero _), rfl⟩)
  · rintro x r ρ' h' ⟨rfl, j, z, er, hj, no', rfl⟩
    refine ⟨rfl, ?_⟩
    by_cases hlt : j < n
    · rw [List.drop_eq_getElem_cons (by rw [List.length_range]; exact hlt)] at er
      simp only [List.getElem_range, List.map_cons, List.cons.injEq] at er
      obtain ⟨rfl, rfl⟩ := er
      rw [W_step, List.set_set, W_cons]
      have w := hC j hlt
      rw [W_ite]
      refine w.use ?_
      rintro _ _ ⟨rfl, rfl⟩
      cases ec : C j with
      | true =>
        simp
        exact q1 (List.any_eq_true.mpr ⟨j, List.mem_range.mpr hlt, ec⟩)
      | false =>
        simp only [tru_bl, KO_some, KI_f, W_nil, KF_nx, KR_nx]
        exact ⟨trivial, j + 1, _, rfl, hlt, fun i hi => by
          rcases Nat.lt_succ_iff_lt_or_eq.mp hi with h | h
          · exact no' i h
          · rw [h]; exact ec, rfl⟩
    · rw [List.drop_eq_nil_of_le (by rw [List.length_range]; omega)] at er
      cases er
  · rintro ρ' h' ⟨rfl, j, z, er, hj, no', rfl⟩
    refine ⟨rfl, q2 ?_ _⟩
    have l := congrArg List.length er
    simp only [List.length_nil, List.length_map, List.length_drop, List.length_range] at l
    rw [Bool.eq_false_iff]
    intro t
    obtain ⟨i, hi, ti⟩ := List.any_eq_true.mp t
    rw [no' i (by have := List.mem_range.mp hi; omega)] at ti
    cases ti
def LmW (p : Pt) (w : List Char) : Prop := ∀ (n : Nat) (h : PH), dep p + w.length + 1 ≤ n → W (callN tab n (.f "_law_matches") [enc p, .str w] h) (fun r h' => r = .bl (mt p w) ∧ h' = h) no
theorem lm_non {w : List Char} : LmW .non w := fun n h hn => by
  refine W_call (by simp only [dep] at hn; omega) rfl rfl fun k hk => ?_
  simp [c__law_matches, enc, kN, mt, in_three, szl]
theorem lm_emp {w : List Char} : LmW .emp w := fun n h hn => by
  refine W_call (by simp only [dep] at hn; omega) rfl rfl fun k hk => ?_
  simp [c__law_matches, enc, kE, mt, in_three, szl]
  cases w <;> simp
theorem lm_any {w : List Char} (lw : w.length ≤ 100) : LmW .any w := fun n h hn => by
  refine W_call (by simp only [dep] at hn; omega) rfl rfl fun k hk => ?_
  simp [c__law_matches, enc, kA, mt, in_three, szl, len_str (s := w) (h := h) (by simp only [szl]; omega)]
  omega
theorem lm_let {w : List Char} {c : Char} : LmW (.let_ c) w := fun n h hn => by
  refine W_call (by simp only [dep] at hn; omega) rfl rfl fun k hk => ?_
  simp [c__law_matches, enc, kL, mt, in_three, szl]
theorem lm_not {w : List Char} {a : Pt} (ia : LmW a w) : LmW (.not_ a) w := fun n h hn => by
  simp only [dep] at hn
  refine W_call (by omega) rfl rfl fun k hk => ?_
  simp [c__law_matches, enc, kNot, mt, in_three, in_two, szl]
  refine (ia k h (by omega)).use ?_
  rintro _ _ ⟨rfl, rfl⟩
  simp
theorem lm_or {w : List Char} {a b : Pt} (ia : LmW a w) (ib : LmW b w) : LmW (.or_ a b) w := fun n h hn => by
  simp only [dep] at hn
  refine W_call (by omega) rfl rfl fun k hk => ?_
  simp [c__law_matches, enc, kO, mt, in_three, in_two, szl]
  refine (ia k h (by omega)).use ?_
  rintro _ _ ⟨rfl, rfl⟩
  simp
  refine (ib k _ (by omega)).use ?_
  rintro _ _ ⟨rfl, rfl⟩
  cases mt a w <;> simp
theorem lm_and {w : List Char} {a b : Pt} (ia : LmW a w) (ib : LmW b w) : LmW (.and_ a b) w := fun n h hn => by
  simp only [dep] at hn
  refine W_call (by omega) rfl rfl fun k hk => ?_
  simp [c__law_matches, enc, kAn, mt, in_three, in_two, szl]
  refine (ia k h (by omega)).use ?_
  rintro _ _ ⟨rfl, rfl⟩
  simp
  refine (ib k _ (by omega)).use ?_
  rintro _ _ ⟨rfl, rfl⟩
  cases mt a w <;> simp
theorem cut_take {w : List Char} {k : Nat} : cutL w none (some (k : Int)) = w.take k := by
  unfold cutL sIx
  have : ¬ ((k : Int) < 0) := by omega
  simp only [if_neg this, Int.toNat_natCast, Nat.sub_zero, List.drop_zero]
  by_cases h : k ≤ w.length
  · rw [Nat.min_eq_left h]
  · rw [Nat.min_eq_right (by omega), List.take_of_length_le (by omega), List.take_of_length_le (by omega)]
theorem cut_drop {w : List Char} {k : Nat} : cutL w (some (k : Int)) none = w.drop k := by
  unfold cutL sIx
  have : ¬ ((k : Int) < 0) := by omega
  simp only [if_neg this, Int.toNat_natCast]
  by_cases h : k ≤ w.length
  · rw [Nat.min_eq_left h, List.take_of_length_le (by rw [List.length_drop]; omega)]
  · rw [Nat.min_eq_right (by omega), List.drop_of_length_le (Nat.le_refl _), List.drop_of_length_le (by omega)]
    simp
theorem lm_join {w : List Char} {a b : Pt} (lw : w.length ≤ 100) (ia : ∀ u : List Char, u.length ≤ w.length → LmW a u) (ib : ∀ u : List Char, u.length ≤ w.length → LmW b u) : LmW (.join a b) w := fun n h hn => by
  simp only [dep] at hn
  refine W_call (by omega) rfl rfl fun k hk => ?_
  have lz : w.length ≤ szl := by simp only [szl]; omega
  simp [c__law_matches, enc, kJ, in_three, in_two, szl, len_str (s := w) (h := h) lz]
  have e1 : ((w.length : Int) + 1) = ((w.length + 1 : Nat) : Int) := by omega
  rw [e1, its_rngN (by omega)]
  refine find_for (ρ := [some (.tup [.str ['j', 'o', 'i', 'n'], enc a, enc b]), some (.str w), some (.str ['j', 'o', 'i', 'n']), none, none, none]) (lo := 0) (y := none) (C := fun k => mt a (w.take k) && mt b (w.drop k)) (fun j hj => ?_) (fun t => ?_) fun t x => ?_
  · simp [slcV, lz, cut_take, cut_drop]
    refine (ia (w.take j) (by rw [List.length_take]; omega) k h (by rw [List.length_take]; omega)).use ?_
    rintro _ _ ⟨rfl, rfl⟩
    cases mt a (w.take j) with
    | false => simp
    | true =>
      simp [slcV, lz, cut_take, cut_drop]
      refine (ib (w.drop j) (by rw [List.length_drop]; omega) k _ (by rw [List.length_drop]; omega)).use ?_
      rintro _ _ ⟨rfl, rfl⟩
      exact ⟨rfl, rfl⟩
  · simp only [KF_rt, KE_rt]
    exact ⟨by rw [mt]; exact congrArg PV.bl t.symm, trivial⟩
  · simp
    rw [mt]
    exact t
theorem lm_star {a : Pt} : ∀ (N : Nat) {w : List Char}, w.length ≤ N → w.length ≤ 100 → (∀ u : List Char, u.length ≤ w.length → LmW a u) → LmW (.star a) w := by
  intro N
  induction N with
  | zero =>
    intro w h0 _ _ n h hn
    have e : w = [] := List.eq_nil_of_length_eq_zero (by omega)
    subst e
    simp only [dep] at hn
    refine W_call (by omega) rfl rfl fun k hk => ?_
    simp [c__law_matches, enc, kSt, in_three, in_two, szl, len_str (s := []) (h := h) (by simp)]
    have e1 : itsOf .rng2 [.int 1, .int 1] h = some ⟨rngL 1 0, []⟩ := rfl
    rw [e1]
    refine KL_of ?_
    simp [rngL, forL, okG, mt, stB]
  | succ N ih =>
    intro w h0 lw ia n h hn
    simp only [dep] at hn
    refine W_call (by omega) rfl rfl fun k hk => ?_
    have lz : w.length ≤ szl := by simp only [szl]; omega
    simp [c__law_matches, enc, kSt, in_three, in_two, szl, len_str (s := w) (h := h) lz]
    have e1 : itsOf .rng2 [.int 1, .int ((w.length : Int) + 1)] h = some ⟨rngL 1 w.length, []⟩ := by
      have s1 : small62 1 = true := by decide
      have s2 : small62 ((w.length : Int) + 1) = true := by simp [small62]; omega
      have s3 : ((w.length : Int) + 1 - 1).toNat = w.length := by omega
      simp only [itsOf, s1, s2, Bool.and_self, if_true, s3]
    rw [e1]
    refine find_for (ρ := [some (.tup [.str ['s', 't', 'a', 'r'], enc a]), some (.str w), some (.str ['s', 't', 'a', 'r']), none, none, none]) (lo := 1) (y := none) (C := fun k => mt a (w.take (k + 1)) && mt (.star a) (w.drop (k + 1))) (fun j hj => ?_) (fun t => ?_) fun t x => ?_
    · have e2 : (1 + (j : Int)) = ((j + 1 : Nat) : Int) := by omega
      simp only [e2]
      simp [slcV, lz, -Int.natCast_add]
      rw [cut_take]
      refine (ia (w.take (j + 1)) (by rw [List.length_take]; omega) k h (by rw [List.length_take]; omega)).use ?_
      rintro _ _ ⟨rfl, rfl⟩
      cases mt a (w.take (j + 1)) with
      | false => simp
      | true =>
        simp [slcV, lz, -Int.natCast_add]
        rw [cut_drop]
        refine (ih (w := w.drop (j + 1)) (by rw [List.length_drop]; omega) (by rw [List.length_drop]; omega) (fun u hu => ia u (by rw [List.length_drop] at hu; omega)) k _ (by rw [List.length_drop]; simp only [dep]; omega)).use ?_
        rintro _ _ ⟨rfl, rfl⟩
        exact ⟨rfl, rfl⟩
    · simp only [KF_rt, KE_rt]
      exact ⟨by rw [mt_star]; rw [t]; rfl, trivial⟩
    · simp
      rw [mt_star, t]
      cases w <;> simp
theorem lm_W : ∀ (p : Pt) {w : List Char}, w.length ≤ 100 → LmW p w := by
  intro p
  induction p with
  | non => exact fun _ => lm_non
  | emp => exact fun _ => lm_emp
  | any => exact fun l => lm_any l
  | let_ c => exact fun _ => lm_let
  | not_ a ia => exact fun l => lm_not (ia l)
  | star a ia => exact fun l => lm_star _ (Nat.le_refl _) l fun u hu => ia (by omega)
  | join a b ia ib => exact fun l => lm_join l (fun u hu => ia (by omega)) fun u hu => ib (by omega)
  | or_ a b ia ib => exact fun l => lm_or (ia l) (ib l)
  | and_ a b ia ib => exact fun l => lm_and (ia l) (ib l)
end Mk14
set_option linter.all false
set_option maxRecDepth 10000
namespace Mk14
open Mi Lib
abbrev KM := List ((Pt × Nat) × Nat)
def keyM (k : Pt × Nat) : PV := .tup [enc k.1, .int (k.2 : Nat)]
def kvM (KV : KM) : List (PV × PV) := KV.map fun x => (keyM x.1, .ref x.2)
def kno (KV : KM) : PO := if KV = [] then .dic [] else .dit (kvM KV)
def lkM (k : Pt × Nat) : KM → Option Nat
  | [] => none
  | x :: r => if x.1 = k then some x.2 else lkM k r
theorem keyM_inj {a b : Pt × Nat} (h : keyM a = keyM b) : a = b := by
  obtain ⟨p, x⟩ := a
  obtain ⟨q, y⟩ := b
  unfold keyM at h
  simp at h
  obtain ⟨h1, h2⟩ := h
  rw [enc_inj h1]
  congr 1
  omega
theorem kv_look {k : Pt × Nat} : ∀ {KV : KM}, lookK (keyM k) (kvM KV) = (lkM k KV).map PV.ref
  | [] => rfl
  | x :: r => by
    show lookK (keyM k) ((keyM x.1, PV.ref x.2) :: kvM r) = _
    rw [lookK, lkM]
    by_cases e : x.1 = k
    · rw [if_pos (by rw [e]), if_pos e]; rfl
    · rw [if_neg (fun z => e (keyM_inj z)), if_neg e, kv_look]
theorem lk_mem {k : Pt × Nat} {r : Nat} : ∀ {KV : KM}, lkM k KV = some r → (k, r) ∈ KV
  | x :: t, h => by
    rw [lkM] at h
    split at h
    · rename_i e
      injection h with h
      subst e h
      exact List.mem_cons_self
    · exact List.mem_cons_of_mem _ (lk_mem h)
theorem lk_none {k : Pt × Nat} : ∀ {KV : KM}, lkM k KV = none → ∀ x ∈ KV, x.1 ≠ k
  | x :: t, h, y, hy => by
    rw [lkM] at h
    split at h
    · cases h
    · rename_i e
      rcases List.mem_cons.mp hy with rfl | hy
      · exact e
      · exact lk_none h y hy
theorem kcn_key (k : Pt × Nat) : kcn 8 (keyM k) = keyM k := by
  show PV.tup [kcn 7 (enc k.1), kcn 7 (.int (k.2 : Nat))] = _
  rw [kcn_enc]
  rfl
theorem tk_key {k : Pt × Nat} (d : dep k.1 ≤ 7) : tkOk (keyM k) = true := by
  show (tkIn 7 (enc k.1) && (tkIn 7 (.int (k.2 : Nat)) && true)) = true
  rw [tkIn_enc d]
  rfl
theorem tkAt_key {k : Pt × Nat} {KV : KM} (d : dep k.1 ≤ 7) : tkAt (keyM k) (kvM KV) = true := by
  unfold tkAt tkFit
  rw [tk_key d, Bool.true_and, List.all_eq_true]
  intro p hp
  obtain ⟨x, _, rfl⟩ := List.mem_map.mp hp
  rw [kcn_key, kcn_key]
  simp
section
variable {h : PH} {a r : Nat} {KV : KM} {k : Pt × Nat}
theorem kn_notin (e : h[a]? = some (kno KV)) (d : dep k.1 ≤ 7) : inV (keyM k) (.ref a) h = some (lkM k KV).isSome := by
  unfold kno at e
  by_cases hK : KV = []
  · subst hK
    rw [if_pos rfl] at e
    have z := tk_key d
    have y : keyOk (keyM k) = false := rfl
    simp [inV, e, lkM, y, z]
  · rw [if_neg hK] at e
    simp only [inV, e, tkAt_key d, if_true, kv_look]
    cases lkM k KV <;> rfl
theorem kn_idx (e : h[a]? = some (kno KV)) (d : dep k.1 ≤ 7) (hk : lkM k KV = some r) : idxV (.ref a) (keyM k) h = .ok (.ref r) h := by
  unfold kno at e
  rw [if_neg (by rintro rfl; cases hk)] at e
  simp only [idxV, e, tkAt_key d, if_true, kv_look, hk]
  rfl
theorem kn_set (e : h[a]? = some (kno KV)) (d : dep k.1 ≤ 7) (hk : lkM k KV = none) (l : KV.length < szl) : setiV (.ref a) (keyM k) (.ref r) h = .ok () (h.set a (kno (KV ++ [(k, r)]))) := by
  unfold kno at e
  by_cases hK : KV = []
  · subst hK
    rw [if_pos rfl] at e
    have z := tk_key d
    simp only [setiV, e]
    have y : keyOk (keyM k) = false := rfl
    simp [y, z, kno, kvM]
  · rw [if_neg hK] at e
    have l2 : (kvM KV).length < szl := by simp [kvM, l]
    simp only [setiV, e, tkAt_key d, Bool.true_and, l2, decide_true, if_true]
    congr 2
    unfold kno
    rw [if_neg (by simp)]
    unfold putK
    rw [if_neg]
    · simp [kvM]
    simp only [List.any_eq_true, decide_eq_true_eq, not_exists, not_and]
    intro p hp e2
    obtain ⟨x, hx, rfl⟩ := List.mem_map.mp hp
    exact lk_none hk x hx (keyM_inj e2)
end
theorem lk_app {k : Pt × Nat} {r : Nat} : ∀ {KV : KM}, lkM k KV = none → lkM k (KV ++ [(k, r)]) = some r
  | [], _ => by simp [lkM]
  | x :: t, h => by
    rw [lkM] at h
    split at h
    · cases h
    · rename_i e
      rw [List.cons_append, lkM, if_neg e]
      exact lk_app h
/-- a store, new or over an old one -/
def stM (k : Pt × Nat) (r : Nat) (KV : KM) : KM := if (lkM k KV).isSome = true then KV.map (fun x => if x.1 = k then (x.1, r) else x) else KV ++ [(k, r)]
theorem lk_map {k : Pt × Nat} {r : Nat} : ∀ {KV : KM}, (lkM k KV).isSome = true → lkM k (KV.map fun x => if x.1 = k then (x.1, r) else x) = some r
  | [], h => by simp [lkM] at h
  | x :: t, h => by
    rw [List.map_cons]
    by_cases e : x.1 = k
    · rw [if_pos e, lkM, if_pos e]
    · rw [if_neg e, lkM, if_neg e]
      rw [lkM, if_neg e] at h
      exact lk_map h
theorem lk_st {k : Pt × Nat} {r : Nat} {KV : KM} : lkM k (stM k r KV) = some r := by
  unfold stM
  cases h : lkM k KV with
  | none => rw [if_neg (by simp)]; exact lk_app h
  | some a => rw [if_pos (show (some a).isSome = true from rfl)]; exact lk_map (by rw [h]; rfl)
theorem st_keys {k : Pt × Nat} {r : Nat} {KV : KM} (nd : (KV.map (·.1)).Nodup) : ((stM k r KV).map (·.1)).Nodup := by
  unfold stM
  split
  · rw [List.map_map]
    have : ((fun x : (Pt × Nat) × Nat => x.1) ∘ fun x => if x.1 = k then (x.1, r) else x) = fun x => x.1 := by
      funext x
      simp only [Function.comp]
      split <;> rfl
    rw [this]
    exact nd
  · rename_i h
    have hk : lkM k KV = none := by
      cases e : lkM k KV with
      | none => rfl
      | some a => rw [e] at h; exact absurd rfl h
    rw [List.map_append, List.nodup_append]
    refine ⟨nd, by simp, fun y hy z hz => ?_⟩
    obtain ⟨x, hx, rfl⟩ := List.mem_map.mp hy
    simp at hz
    subst hz
    exact lk_none hk x hx
theorem st_mem {k : Pt × Nat} {r : Nat} {KV : KM} {x : (Pt × Nat) × Nat} (h : x ∈ stM k r KV) : x = (k, r) ∨ x ∈ KV := by
  unfold stM at h
  split at h
  · obtain ⟨y, hy, e⟩ := List.mem_map.mp h
    by_cases e2 : y.1 = k
    · rw [if_pos e2, e2] at e
      exact .inl e.symm
    · rw [if_neg e2] at e
      exact .inr (e ▸ hy)
  · rcases List.mem_append.mp h with h | h
    · exact .inr h
    · exact .inl (by simpa using h)
theorem kn_st {h : PH} {a r : Nat} {KV : KM} {k : Pt × Nat} (e : h[a]? = some (kno KV)) (d : dep k.1 ≤ 7) (l : KV.length < szl) : setiV (.ref a) (keyM k) (.ref r) h = .ok () (h.set a (kno (stM k r KV))) := by
  cases hk : lkM k KV with
  | none =>
    have : stM k r KV = KV ++ [(k, r)] := by unfold stM; rw [hk]; rfl
    rw [this]
    exact kn_set e d hk l
  | some b =>
    have z : stM k r KV = KV.map (fun x => if x.1 = k then (x.1, r) else x) := by unfold stM; rw [hk]; rfl
    have hK : KV ≠ [] := by rintro rfl; cases hk
    unfold kno at e
    rw [if_neg hK] at e
    have l2 : (kvM KV).length < szl := by simp [kvM, l]
    simp only [setiV, e, tkAt_key d, Bool.true_and, l2, decide_true, if_true]
    congr 2
    unfold kno
    rw [z, if_neg (by simp [hK])]
    unfold putK
    rw [if_pos]
    · congr 1
      unfold kvM
      rw [List.map_map, List.map_map]
      refine List.map_congr_left fun x _ => ?_
      simp only [Function.comp]
      by_cases e2 : x.1 = k
      · rw [if_pos (by rw [e2]), if_pos e2]
      · rw [if_neg (fun y => e2 (keyM_inj y)), if_neg e2]
    · rw [List.any_eq_true]
      exact ⟨(keyM k, .ref b), List.mem_map.mpr ⟨(k, b), lk_mem hk, rfl⟩, by simp⟩
structure MS (t : List Char) (P : List Pt) (q kn : Nat) (Z : Nat → Prop) (h : PH) : Prop where
  ins : h[q]? = some (.ins "Matcher" [("text", .str t), ("known", .ref kn)])
  ne : q ≠ kn
  ex : ∃ KV : KM, h[kn]? = some (kno KV) ∧ (KV.map (·.1)).Nodup ∧ ∀ x ∈ KV, x.1.1 ∈ P ∧ x.1.2 ≤ t.length ∧ x.2 ≠ kn ∧ h[x.2]? = some (.lst (intsV (En t x.1.1 x.1.2))) ∧ ¬ Z x.2
  zl : ∀ z, Z z → z < h.length
/-- all but kn is kept -/
def Fr (kn : Nat) (h h' : PH) : Prop := (∀ (i : Nat) (o : PO), i ≠ kn → h[i]? = some o → h'[i]? = some o) ∧ h.length ≤ h'.length
section
variable {t : List Char} {P : List Pt} {q kn : Nat} {Z : Nat → Prop} {h h1 h2 g : PH}
theorem Fr.refl : Fr kn h h := ⟨fun _ _ _ e => e, Nat.le_refl _⟩
theorem Fr.trans (a : Fr kn h h1) (b : Fr kn h1 h2) : Fr kn h h2 := ⟨fun i o n e => b.1 i o n (a.1 i o n e), Nat.le_trans a.2 b.2⟩
theorem Fr.pf (a : PF h h1) : Fr kn h h1 := ⟨fun i o _ e => a i o e, a.len⟩
theorem MS.pf (m : MS t P q kn Z h) (p : PF h g) : MS t P q kn Z g := by
  obtain ⟨KV, e, nd, all⟩ := m.ex
  exact ⟨p _ _ m.ins, m.ne, ⟨KV, p _ _ e, nd, fun x hx => ⟨(all x hx).1, (all x hx).2.1, (all x hx).2.2.1, p _ _ (all x hx).2.2.2.1, (all x hx).2.2.2.2⟩⟩, fun z hz => Nat.lt_of_lt_of_le (m.zl z hz) p.len⟩
/-- with fewer things set aside, with fresh things set aside -/
theorem MS.less {Z' : Nat → Prop} (m : MS t P q kn Z h) (l : ∀ z, Z' z → Z z) : MS t P q kn Z' h := by
  obtain ⟨KV, e, nd, all⟩ := m.ex
  exact ⟨m.ins, m.ne, ⟨KV, e, nd, fun x hx => ⟨(all x hx).1, (all x hx).2.1, (all x hx).2.2.1, (all x hx).2.2.2.1, fun z => (all x hx).2.2.2.2 (l _ z)⟩⟩, fun z hz => m.zl z (l z hz)⟩
theorem MS.more {Z' : Nat → Prop} (m : MS t P q kn Z h) (p : PF h g) (l : ∀ z, Z' z → z < g.length ∧ (Z z ∨ h.length ≤ z)) : MS t P q kn Z' g := by
  obtain ⟨KV, e, nd, all⟩ := m.ex
  refine ⟨p _ _ m.ins, m.ne, ⟨KV, p _ _ e, nd, fun x hx => ⟨(all x hx).1, (all x hx).2.1, (all x hx).2.2.1, p _ _ (all x hx).2.2.2.1, fun z => ?_⟩⟩, fun z hz => (l z hz).1⟩
  rcases (l _ z).2 with y | y
  · exact (all x hx).2.2.2.2 y
  · have := (List.getElem?_eq_some_iff.mp (all x hx).2.2.2.1).1
    omega
/-- what is set aside may change -/
theorem MS.set {i : Nat} {o : PO} (m : MS t P q kn Z h) (hz : Z i) (nq : i ≠ q) (nk : i ≠ kn) : MS t P q kn Z (h.set i o) := by
  obtain ⟨KV, e, nd, all⟩ := m.ex
  have kp : ∀ {j : Nat} {o' : PO}, j ≠ i → h[j]? = some o' → (h.set i o)[j]? = some o' := fun {j o'} n e => by
    rw [List.getElem?_set_ne fun z => n z.symm]
    exact e
  exact ⟨kp (fun z => nq z.symm) m.ins, m.ne, ⟨KV, kp (fun z => nk z.symm) e, nd, fun x hx => ⟨(all x hx).1, (all x hx).2.1, (all x hx).2.2.1, kp (fun z => (all x hx).2.2.2.2 (z ▸ hz)) (all x hx).2.2.2.1, (all x hx).2.2.2.2⟩⟩, fun z hz => by rw [List.length_set]; exact m.zl z hz⟩
theorem MS.klt (m : MS t P q kn Z h) : kn < h.length := by
  obtain ⟨KV, e, _⟩ := m.ex
  exact (List.getElem?_eq_some_iff.mp e).1
/-- changes elsewhere, of things that are no ends -/
theorem MS.len {KV : KM} (nd : (KV.map (·.1)).Nodup) (all : ∀ x ∈ KV, x.1.1 ∈ P ∧ x.1.2 ≤ t.length) : KV.length ≤ P.length * (t.length + 1) := by
  have z := sub_le (m := P.flatMap fun p => (List.range (t.length + 1)).map fun b => (p, b)) nd fun k hk => by
    obtain ⟨x, hx, rfl⟩ := List.mem_map.mp hk
    obtain ⟨h1, h2⟩ := all x hx
    exact List.mem_flatMap.mpr ⟨x.1.1, h1, List.mem_map.mpr ⟨x.1.2, List.mem_range.mpr (by omega), rfl⟩⟩
  rw [List.length_map] at z
  refine Nat.le_trans z ?_
  clear z nd all
  induction P with
  | nil => simp
  | cons p r ih =>
    simp only [List.flatMap_cons, List.length_append, List.length_map, List.length_range, List.length_cons]
    rw [Nat.add_mul]
    omega
end
end Mk14
set_option linter.all false
set_option maxRecDepth 10000
namespace Mk14
open Mi Lib
/-- what a list of ends is -/
def EP (t : List Char) (P : List Pt) (q kn : Nat) (p : Pt) (Z : Nat → Prop) (b : Nat) (h : PH) : PV → PH → Prop := fun r h' => ∃ a, r = .ref a ∧ a ≠ kn ∧ h'[a]? = some (.lst (intsV (En t p b))) ∧ MS t P q kn Z h' ∧ Fr kn h h' ∧ ¬ Z a
def EdW (t : List Char) (P : List Pt) (q kn : Nat) (p : Pt) (n : Nat) : Prop := ∀ (Z : Nat → Prop) (b : Nat) (h : PH), b ≤ t.length → MS t P q kn Z h → W (callN tab n (.m "Matcher" "ends") [.ref q, enc p, .int (b : Nat)] h) (EP t P q kn p Z b h) no
def EoW (t : List Char) (P : List Pt) (q kn : Nat) (p : Pt) (n : Nat) : Prop := ∀ (Z : Nat → Prop) (b : Nat) (h : PH), b ≤ t.length → MS t P q kn Z h → W (callN tab n (.m "Matcher" "ends_of") [.ref q, enc p, .int (b : Nat)] h) (EP t P q kn p Z b h) no
section
variable {t : List Char} {P : List Pt} {q kn : Nat} {p : Pt} {n : Nat}
theorem MS.add {Z : Nat → Prop} {b a : Nat} {h : PH} {KV : KM} (hP : p ∈ P) (hb : b ≤ t.length) (m : MS t P q kn Z h) (e : h[kn]? = some (kno KV)) (nd : (KV.map (·.1)).Nodup)
    (all : ∀ x ∈ KV, x.1.1 ∈ P ∧ x.1.2 ≤ t.length ∧ x.2 ≠ kn ∧ h[x.2]? = some (.lst (intsV (En t x.1.1 x.1.2))) ∧ ¬ Z x.2) (na : a ≠ kn) (ea : h[a]? = some (.lst (intsV (En t p b)))) (za : ¬ Z a) :
    MS t P q kn Z (h.set kn (kno (stM (p, b) a KV))) := by
  have keep : ∀ {i : Nat} {o : PO}, i ≠ kn → h[i]? = some o → (h.set kn (kno (stM (p, b) a KV)))[i]? = some o := fun {i o} ni e => by
    rw [List.getElem?_set_ne fun z => ni z.symm]
    exact e
  refine ⟨keep m.ne m.ins, m.ne, ⟨stM (p, b) a KV, get_set e, st_keys nd, fun x hx => ?_⟩, fun z hz => by rw [List.length_set]; exact m.zl z hz⟩
  rcases st_mem hx with rfl | hx
  · exact ⟨hP, hb, na, keep na ea, za⟩
  · obtain ⟨h1, h2, h3, h4, h5⟩ := all x hx
    exact ⟨h1, h2, h3, keep h3 h4, h5⟩
theorem ends_W (hP : p ∈ P) (d : dep p ≤ 7) (lP : P.length ≤ 1000) (lt : t.length ≤ 100) (eo : EoW t P q kn p n) : EdW t P q kn p (n + 1) := fun Z b h hb m => by
  refine W_call (by omega) rfl rfl fun k hk => ?_
  obtain rfl : k = n := by omega
  obtain ⟨KV, e, nd, all⟩ := m.ex
  unfold c_Matcher__ends
  rw [W_cons]
  simp [W_fldI m.ins, szl]
  rw [show List.lookup "known" [("text", PV.str t), ("known", PV.ref kn)] = some (.ref kn) from rfl, KO_some, show PV.tup [enc p, .int (b : Nat)] = keyM (p, b) from rfl, kn_notin e d, KO_some]
  cases hk : lkM (p, b) KV with
  | some a =>
    have am := all _ (lk_mem hk)
    simp [W_fldI m.ins, szl]
    rw [show List.lookup "known" [("text", PV.str t), ("known", PV.ref kn)] = some (.ref kn) from rfl, KO_some, show PV.tup [enc p, .int (b : Nat)] = keyM (p, b) from rfl, W_okI (kn_idx e d hk)]
    exact ⟨a, rfl, am.2.2.1, am.2.2.2.1, m, Fr.refl, am.2.2.2.2⟩
  | none =>
    simp only [Option.isSome_none, Bool.not_false, KI_t]
    rw [W_cons]
    simp [-W_cons]
    rw [clsOf_ins (m := "ends_of") (ks := ["Matcher"]) m.ins (by simp [List.lookup]) (by simp), KO_some]
    refine (eo Z b h hb m).use ?_
    rintro _ h2 ⟨a, rfl, na, ea, m2, fr, za⟩
    obtain ⟨KV2, e2, nd2, all2⟩ := m2.ex
    have lk2 : KV2.length < szl := by
      have := MS.len nd2 fun x hx => ⟨(all2 x hx).1, (all2 x hx).2.1⟩
      have : P.length * (t.length + 1) ≤ 1000 * 101 := Nat.mul_le_mul lP (by omega)
      simp only [szl]
      omega
    have hl2 : h2[kn]? ≠ none := by rw [e2]; simp
    simp [W_fldI m2.ins, szl, -W_cons]
    rw [show List.lookup "known" [("text", PV.str t), ("known", PV.ref kn)] = some (.ref kn) from rfl, KO_some]
    rw [show PV.tup [enc p, .int (b : Nat)] = keyM (p, b) from rfl, W_okI (kn_st e2 d lk2)]
    have m3 := MS.add hP hb m2 e2 nd2 all2 na ea za
    have e3 : (h2.set kn (kno (stM (p, b) a KV2)))[kn]? = some (kno (stM (p, b) a KV2)) := get_set e2
    have ea3 : (h2.set kn (kno (stM (p, b) a KV2)))[a]? = some (.lst (intsV (En t p b))) := by
      rw [List.getElem?_set_ne fun z => na z.symm]
      exact ea
    have fr3 : Fr kn h2 (h2.set kn (kno (stM (p, b) a KV2))) := ⟨fun i o ni e => by
      rw [List.getElem?_set_ne fun z => ni z.symm]
      exact e, by simp⟩
    generalize h2.set kn (kno (stM (p, b) a KV2)) = h3 at *
    simp [W_fldI m3.ins, szl]
    rw [show List.lookup "known" [("text", PV.str t), ("known", PV.ref kn)] = some (.ref kn) from rfl, KO_some, show PV.tup [enc p, .int (b : Nat)] = keyM (p, b) from rfl, W_okI (kn_idx e3 d lk_st)]
    exact ⟨a, rfl, na, ea3, m3, fr.trans fr3, za⟩
end
end Mk14
set_option linter.all false
set_option maxRecDepth 10000
namespace Mk14
open Mi Lib
section
variable {t : List Char} {b : Nat} {p r : Pt}
theorem En_non : En t .non b = [] := by
  refine List.filter_eq_nil_iff.mpr fun e _ => ?_
  simp [mt]
theorem sing_asc {x : Nat} : [x].Pairwise (· < ·) := by simp
theorem En_emp (hb : b ≤ t.length) : En t .emp b = [b] := by
  refine asc_ext En_asc sing_asc fun k => ?_
  rw [mem_En, List.mem_singleton]
  constructor
  · rintro ⟨h1, h2, h3⟩
    have l := seg_len h2 h1 (t := t)
    have e : seg t b k = [] := by simpa [mt] using h3
    rw [e] at l
    simp at l
    omega
  · rintro rfl
    exact ⟨hb, Nat.le_refl _, by rw [seg_self]; rfl⟩
theorem En_any : En t .any b = if b < t.length then [b + 1] else [] := by
  by_cases hb : b < t.length
  · rw [if_pos hb]
    refine asc_ext En_asc sing_asc fun k => ?_
    rw [mem_En, List.mem_singleton]
    constructor
    · rintro ⟨h1, h2, h3⟩
      have l := seg_len h2 h1 (t := t)
      have e : (seg t b k).length = 1 := by simpa [mt] using h3
      omega
    · rintro rfl
      refine ⟨by omega, by omega, ?_⟩
      have l := seg_len (t := t) (b := b) (e := b + 1) (by omega) (by omega)
      simp [mt]
      omega
  · rw [if_neg hb]
    refine List.filter_eq_nil_iff.mpr fun e he => ?_
    rw [List.mem_range] at he
    simp only [mt, Bool.and_eq_true, decide_eq_true_eq, not_and]
    intro h2 e1
    have l := seg_len (t := t) h2 (by omega)
    omega
theorem seg_one {c : Char} (hb : t[b]? = some c) : seg t b (b + 1) = [c] := by
  unfold seg
  obtain ⟨h1, h2⟩ := List.getElem?_eq_some_iff.mp hb
  rw [List.drop_eq_getElem_cons h1, h2]
  have : b + 1 - b = 1 := by omega
  rw [this]
  rfl
theorem En_let {c d : Char} (hb : t[b]? = some d) : En t (.let_ c) b = if d = c then [b + 1] else [] := by
  have hl := (List.getElem?_eq_some_iff.mp hb).1
  by_cases e : d = c
  · rw [if_pos e]
    refine asc_ext En_asc sing_asc fun k => ?_
    rw [mem_En, List.mem_singleton]
    constructor
    · rintro ⟨h1, h2, h3⟩
      have l := seg_len h2 h1 (t := t)
      have e : seg t b k = [c] := by simpa [mt] using h3
      rw [e] at l
      simp at l
      omega
    · rintro rfl
      refine ⟨by omega, by omega, ?_⟩
      rw [seg_one hb]
      simp [mt, e]
  · rw [if_neg e]
    refine List.filter_eq_nil_iff.mpr fun k he => ?_
    rw [List.mem_range] at he
    simp only [mt, Bool.and_eq_true, decide_eq_true_eq, not_and]
    intro h2 e1
    have l := seg_len (t := t) h2 (by omega)
    rw [e1] at l
    simp at l
    have : k = b + 1 := by omega
    subst this
    rw [seg_one hb] at e1
    exact e (by simpa using e1)
theorem En_let0 {c : Char} (hb : t.length ≤ b) : En t (.let_ c) b = [] := by
  refine List.filter_eq_nil_iff.mpr fun k he => ?_
  rw [List.mem_range] at he
  simp only [mt, Bool.and_eq_true, decide_eq_true_eq, not_and]
  intro h2 e1
  have l := seg_len (t := t) h2 (by omega)
  rw [e1] at l
  simp at l
  omega
theorem En_not (hb : b ≤ t.length) : En t (.not_ p) b = (List.range' b (t.length + 1 - b)).filter fun e => decide (e ∉ En t p b) := by
  refine asc_ext En_asc (List.Pairwise.filter _ List.pairwise_lt_range') fun k => ?_
  rw [mem_En, List.mem_filter, List.mem_range'_1, decide_eq_true_eq, mem_En]
  simp only [mt, Bool.not_eq_true']
  constructor
  · rintro ⟨h1, h2, h3⟩
    exact ⟨by omega, fun ⟨_, _, z⟩ => by rw [h3] at z; cases z⟩
  · rintro ⟨h1, h2⟩
    refine ⟨by omega, by omega, ?_⟩
    cases z : mt p (seg t b k) with
    | false => rfl
    | true => exact absurd ⟨by omega, by omega, z⟩ h2
theorem En_and : En t (.and_ p r) b = (En t p b).filter fun e => decide (e ∈ En t r b) := by
  refine asc_ext En_asc (List.Pairwise.filter _ En_asc) fun k => ?_
  rw [mem_En, List.mem_filter, decide_eq_true_eq, mem_En, mem_En]
  simp only [mt, Bool.and_eq_true]
  constructor
  · rintro ⟨h1, h2, h3, h4⟩
    exact ⟨⟨h1, h2, h3⟩, h1, h2, h4⟩
  · rintro ⟨⟨h1, h2, h3⟩, _, _, h4⟩
    exact ⟨h1, h2, h3, h4⟩
theorem intsC_mem {l : List Nat} {k : Int} : k ∈ l.map (fun x => ((x : Nat) : Int)) ↔ ∃ x : Nat, x ∈ l ∧ (x : Int) = k := by
  rw [List.mem_map]
theorem asc_extI : ∀ {a b : List Int}, a.Pairwise (· < ·) → b.Pairwise (· < ·) → (∀ k, k ∈ a ↔ k ∈ b) → a = b
  | [], [], _, _, _ => rfl
  | [], y :: t, _, _, h => by have := (h y).mpr List.mem_cons_self; cases this
  | x :: r, [], _, _, h => by have := (h x).mp List.mem_cons_self; cases this
  | x :: r, y :: t, ha, hb, h => by
    obtain ⟨a1, a2⟩ := List.pairwise_cons.mp ha
    obtain ⟨b1, b2⟩ := List.pairwise_cons.mp hb
    have e : x = y := by
      rcases List.mem_cons.mp ((h x).mp List.mem_cons_self) with e | hx
      · exact e
      · rcases List.mem_cons.mp ((h y).mpr List.mem_cons_self) with e | hy
        · exact e.symm
        · have := a1 y hy; have := b1 x hx; omega
    subst e
    refine congrArg (x :: ·) (asc_extI a2 b2 fun k => ⟨fun hk => ?_, fun hk => ?_⟩)
    · rcases List.mem_cons.mp ((h k).mp (List.mem_cons_of_mem _ hk)) with e | hk'
      · have := a1 k hk; omega
      · exact hk'
    · rcases List.mem_cons.mp ((h k).mpr (List.mem_cons_of_mem _ hk)) with e | hk'
      · have := b1 k hk; omega
      · exact hk'
/-- the sorted list of these -/
theorem sortU_nats {l m : List Nat} (hm : m.Pairwise (· < ·)) (h : ∀ k, k ∈ m ↔ k ∈ l) : (sortU (l.map fun x => ((x : Nat) : Int))).map PV.int = intsV m := by
  have e : sortU (l.map fun x => ((x : Nat) : Int)) = m.map fun x => ((x : Nat) : Int) := by
    refine asc_extI (Lib.sortU_asc _) ?_ fun k => ?_
    · rw [List.pairwise_map]
      exact hm.imp fun h => by omega
    · rw [Lib.sortU_mem, intsC_mem, intsC_mem]
      simp only [h]
  rw [e]
  unfold intsV
  rw [List.map_map]
  rfl
theorem En_or : ∀ k, k ∈ En t (.or_ p r) b ↔ k ∈ En t p b ++ En t r b := fun k => by
  rw [List.mem_append, mem_En, mem_En, mem_En]
  simp only [mt, Bool.or_eq_true]
  constructor
  · rintro ⟨h1, h2, h3 | h3⟩
    · exact .inl ⟨h1, h2, h3⟩
    · exact .inr ⟨h1, h2, h3⟩
  · rintro (⟨h1, h2, h3⟩ | ⟨h1, h2, h3⟩)
    · exact ⟨h1, h2, .inl h3⟩
    · exact ⟨h1, h2, .inr h3⟩
theorem En_joinL : ∀ k, k ∈ En t (.join p r) b ↔ k ∈ (En t p b).flatMap fun m => En t r m := fun k => by
  rw [En_join, List.mem_flatMap]
end
end Mk14
set_option linter.all false
set_option maxRecDepth 10000
namespace Mk14
open Mi Lib
/-- [x for x in .. if c] -/
theorem filt_W {cl : Cl} {c : E} {ρ : Env} {h : PH} {g : Gd} {xs : List Nat} {C : Nat → Bool} {Q : List PV → PH → Prop} {X : EQ} (ok : okG g h = true) (h7 : 7 < ρ.length)
    (hC : ∀ x, x ∈ xs → W (ev cl c (ρ.set 7 (some (.int (x : Nat)))) h) (fun r h' => r = .bl (C x) ∧ h' = h) no) (q : Q (intsV (xs.filter C)) h) :
    W (lcL g (lcStep cl (.v 7) (.nm 7) [c] ρ) (intsV xs) h) Q X := by
  refine W_lcL (fun ys r h' => h' = h ∧ ∃ pre post, xs = pre ++ post ∧ r = intsV post ∧ ys = intsV (pre.filter C)) ?_ ?_ _ _ ⟨rfl, [], xs, rfl, rfl, rfl⟩
  · rintro ys x r h' ⟨rfl, pre, post, ex, er, rfl⟩
    refine ⟨ok, ?_⟩
    cases post with
    | nil => simp [intsV] at er
    | cons y post =>
      simp only [intsV, List.map_cons, List.cons.injEq] at er
      obtain ⟨rfl, rfl⟩ := er
      rw [W_lcStepC, bindT_nm, KO_some]
      refine (hC y (by rw [ex]; simp)).use ?_
      rintro _ _ ⟨rfl, rfl⟩
      have e7 : (ρ.set 7 (some (PV.int (y : Nat))))[7]? = some (some (.int (y : Nat))) := by rw [List.getElem?_set_self h7]
      cases hy : C y with
      | true =>
        simp only [tru_bl, KO_some, KM_t, W_v, e7, Option.bind_some, id]
        exact ⟨trivial, pre ++ [y], post, by rw [ex]; simp, rfl, by rw [List.filter_append]; simp [intsV, hy]⟩
      | false =>
        simp only [tru_bl, KO_some, KM_f]
        exact ⟨trivial, pre ++ [y], post, by rw [ex]; simp, rfl, by rw [List.filter_append]; simp [intsV, hy]⟩
  · rintro ys h' ⟨rfl, pre, post, ex, er, rfl⟩
    have : post = [] := by simpa [intsV] using er.symm
    subst this
    rw [List.append_nil] at ex
    subst ex
    exact ⟨ok, q⟩
theorem its_r2 {h : PH} {b N : Nat} (hb : b ≤ N) (l : N ≤ 100) : itsOf .rng2 [.int (b : Nat), .int ((N : Int) + 1)] h = some ⟨intsV (List.range' b (N + 1 - b)), []⟩ := by
  have s1 : small62 ((b : Nat) : Int) = true := by simp [small62]; omega
  have s2 : small62 ((N : Int) + 1) = true := by simp [small62]; omega
  have s3 : ((N : Int) + 1 - (b : Nat)).toNat = N + 1 - b := by omega
  have s4 : rngL (b : Nat) (N + 1 - b) = intsV (List.range' b (N + 1 - b)) := by
    unfold rngL intsV
    rw [List.range'_eq_map_range, List.map_map]
    refine List.map_congr_left fun x _ => ?_
    simp
  simp only [itsOf, s1, s2, Bool.and_self, if_true, s3, s4]
section
variable {t : List Char} {P : List Pt} {q kn : Nat} {p r : Pt} {n : Nat}
theorem lkT : List.lookup "text" [("text", PV.str t), ("known", PV.ref kn)] = some (.str t) := rfl
theorem EP.new {Z : Nat → Prop} {b : Nat} {h h2 : PH} {l : List PV} (m : MS t P q kn Z h2) (fr : Fr kn h h2) (e : l = intsV (En t p b)) : EP t P q kn p Z b h (.ref h2.length) (h2 ++ [.lst l]) := by
  subst e
  exact ⟨h2.length, rfl, by have := m.klt; omega, get_new, m.pf PF.app, fr.trans (Fr.pf PF.app), fun z => Nat.lt_irrefl _ (m.zl _ z)⟩
theorem eo_non (lt : t.length ≤ 100) : EoW t P q kn .non (n + 1) := fun Z b h hb m => by
  refine W_call (by omega) rfl rfl fun k hk => ?_
  have lz : t.length ≤ szl := by simp only [szl]; omega
  simp [c_Matcher__ends_of, enc, kN, W_fldI m.ins, lkT, len_str (s := t) (h := h) lz]
  exact EP.new m Fr.refl (by rw [En_non]; rfl)
theorem eo_emp (lt : t.length ≤ 100) : EoW t P q kn .emp (n + 1) := fun Z b h hb m => by
  refine W_call (by omega) rfl rfl fun k hk => ?_
  have lz : t.length ≤ szl := by simp only [szl]; omega
  simp [c_Matcher__ends_of, enc, kE, W_fldI m.ins, lkT, len_str (s := t) (h := h) lz, szl]
  exact EP.new m Fr.refl (by rw [En_emp hb]; rfl)
theorem eo_any (lt : t.length ≤ 100) : EoW t P q kn .any (n + 1) := fun Z b h hb m => by
  refine W_call (by omega) rfl rfl fun k hk => ?_
  have lz : t.length ≤ szl := by simp only [szl]; omega
  simp [c_Matcher__ends_of, enc, kA, W_fldI m.ins, lkT, len_str (s := t) (h := h) lz, in_two, szl]
  by_cases hl : b < t.length
  · simp [hl, szl]
    exact EP.new m Fr.refl (by rw [En_any, if_pos hl]; rfl)
  · simp [hl, szl]
    exact EP.new m Fr.refl (by rw [En_any, if_neg hl]; rfl)
theorem W_one {v : PV} {h : PH} {Q : PV → PH → Prop} {X : EQ} : W (oneR (some v) h) Q X = Q v h := rfl
theorem eo_let (lt : t.length ≤ 100) {c : Char} : EoW t P q kn (.let_ c) (n + 1) := fun Z b h hb m => by
  refine W_call (by omega) rfl rfl fun k hk => ?_
  have lz : t.length ≤ szl := by simp only [szl]; omega
  simp [c_Matcher__ends_of, enc, kL, W_fldI m.ins, lkT, len_str (s := t) (h := h) lz, in_two, szl]
  by_cases hl : b < t.length
  · have e := List.getElem?_eq_getElem hl
    simp [hl, W_fldI m.ins, lkT, idxV, lz, W_one, atI, ixN]
    by_cases hd : t[b] = c
    · simp [hd, szl]
      exact EP.new m Fr.refl (by rw [En_let e, if_pos hd]; rfl)
    · simp [hd, szl]
      exact EP.new m Fr.refl (by rw [En_let e, if_neg hd]; rfl)
  · simp [hl, szl]
    exact EP.new m Fr.refl (by rw [En_let0 (by omega)]; rfl)
theorem eo_not (lt : t.length ≤ 100) (ed : EdW t P q kn p n) : EoW t P q kn (.not_ p) (n + 1) := fun Z b h hb m => by
  refine W_call (by omega) rfl rfl fun k hk => ?_
  obtain rfl : k = n := by omega
  have lz : t.length ≤ szl := by simp only [szl]; omega
  simp -implicitDefEqProofs [c_Matcher__ends_of, enc, kNot, W_fldI m.ins, lkT, len_str (s := t) (h := h) lz, in_two, szl]
  rw [clsOf_ins (m := "ends") (ks := ["Matcher"]) m.ins (by simp [List.lookup]) (by simp), KO_some]
  refine (ed Z b h hb m).use ?_
  rintro _ h2 ⟨a, rfl, na, ea, m2, fr, za⟩
  rw [its_r2 hb lt]
  refine KLC_of (by rw [ints_len, List.length_range']; simp only [szl]; omega) ?_
  refine filt_W (C := fun e => decide (e ∉ En t p b)) rfl (by simp) (fun x hx => ?_) ?_
  · simp [in_lst ea]
  · exact EP.new m2 fr (by rw [En_not hb])
end
end Mk14
set_option linter.all false
set_option maxRecDepth 10000
namespace Mk14
open Mi Lib
section
variable {cl : Cl} {ρ : Env} {h : PH} {X : EQ}
def KSC2 (st : Nat → PV → PH → Mi.R (List PV)) (h : PH) (Q : PV → PH → Prop) (X : EQ) (o : Option Its) : Prop :=
  ∃ i, o = some i ∧ W (lcC i.g st 0 i.xs h) (fun ys h1 => ∃ ns, intsOf ys = some ns ∧ ns.length < 63 ∧ Q (.ref h1.length) (h1 ++ [.lst ((sortU ns).map .int)])) X
theorem W_sc2 {elt : E} {t : T} {ik : IK} {its cs : List E} {own : List Nat} {t2 : T} {ik2 : IK} {its2 cs2 : List E} {own2 : List Nat} {Q : PV → PH → Prop} : W (ev cl (.sc2 elt t ik its cs own t2 ik2 its2 cs2 own2) ρ h) Q X = W (evs cl its ρ h) (fun vs h1 => KSC2 (lc2Step cl elt t cs (wipeE ρ own) t2 ik2 its2 cs2 own2) h1 Q X (itsOf ik vs h1)) X := by
  rw [ev, W_bind]
  congr 1
  funext vs h1
  cases itsOf ik vs h1 with
  | none => simp [KSC2]
  | some i =>
    simp only [KSC2, Option.some.injEq, exists_eq_left', W_bind]
    have z : (fun (ys : List PV) (h5 : PH) => W (match intsOf ys with
      | some ns => if ns.length < 63 then Mi.R.ok (PV.ref h5.length) (h5 ++ [PO.lst ((sortU ns).map .int)]) else Mi.R.bad
      | none => Mi.R.bad) Q X) = fun ys h1 => ∃ ns, intsOf ys = some ns ∧ ns.length < 63 ∧ Q (.ref h1.length) (h1 ++ [.lst ((sortU ns).map .int)]) := by
      funext ys h5
      cases intsOf ys with
      | none => simp
      | some ns =>
        by_cases l : ns.length < 63
        · simp [l]
        · simp [l]
    exact congrArg (fun k => W (lcC i.g (lc2Step cl elt t cs (wipeE ρ own) t2 ik2 its2 cs2 own2) 0 i.xs h1) k X) z
end
theorem flat_len {α β : Type} {f : α → List β} {N : Nat} : ∀ {l : List α}, (∀ x ∈ l, (f x).length ≤ N) → (l.flatMap f).length ≤ l.length * N
  | [], _ => by simp
  | x :: r, h => by
    rw [List.flatMap_cons, List.length_append, List.length_cons, Nat.add_mul]
    have := h x List.mem_cons_self
    have := flat_len (l := r) fun y hy => h y (List.mem_cons_of_mem _ hy)
    omega
section
variable {t : List Char} {P : List Pt} {q kn : Nat} {p r : Pt} {n : Nat}
theorem eo_and (lt : t.length ≤ 100) (ed : EdW t P q kn p n) (er : EdW t P q kn r n) : EoW t P q kn (.and_ p r) (n + 1) := fun Z b h hb m => by
  refine W_call (by omega) rfl rfl fun k hk => ?_
  obtain rfl : k = n := by omega
  have lz : t.length ≤ szl := by simp only [szl]; omega
  simp -implicitDefEqProofs [c_Matcher__ends_of, enc, kAn, W_fldI m.ins, lkT, len_str (s := t) (h := h) lz, in_two, szl]
  rw [clsOf_ins (m := "ends") (ks := ["Matcher"]) m.ins (by simp [List.lookup]) (by simp), KO_some]
  refine (ed Z b h hb m).use ?_
  rintro _ h2 ⟨a, rfl, na, ea, m2, fr, za⟩
  rw [clsOf_ins (m := "ends") (ks := ["Matcher"]) m2.ins (by simp [List.lookup]) (by simp), KO_some]
  refine (er Z b h2 hb m2).use ?_
  rintro _ h3 ⟨a2, rfl, na2, ea2, m3, fr3, za3⟩
  have ea3 := fr3.1 _ _ na ea
  rw [its_lst ea3]
  refine KLC_of (by rw [ints_len]; have := En_len (t := t) (b := b) (p := p); simp only [szl]; omega) ?_
  refine filt_W (C := fun e => decide (e ∈ En t r b)) (okG_one ea3) (by simp) (fun x hx => ?_) ?_
  · simp [in_lst ea2]
  · exact EP.new m3 (fr.trans fr3) (by rw [En_and])
theorem eo_or (lt : t.length ≤ 5) (ed : EdW t P q kn p n) (er : EdW t P q kn r n) : EoW t P q kn (.or_ p r) (n + 1) := fun Z b h hb m => by
  refine W_call (by omega) rfl rfl fun k hk => ?_
  obtain rfl : k = n := by omega
  have lz : t.length ≤ szl := by simp only [szl]; omega
  simp -implicitDefEqProofs [c_Matcher__ends_of, enc, kO, W_fldI m.ins, lkT, len_str (s := t) (h := h) lz, in_two, szl]
  rw [clsOf_ins (m := "ends") (ks := ["Matcher"]) m.ins (by simp [List.lookup]) (by simp), KO_some]
  refine (ed Z b h hb m).use ?_
  rintro _ h2 ⟨a, rfl, na, ea, m2, fr, za⟩
  rw [clsOf_ins (m := "ends") (ks := ["Matcher"]) m2.ins (by simp [List.lookup]) (by simp), KO_some]
  refine (er Z b h2 hb m2).use ?_
  rintro _ h3 ⟨a2, rfl, na2, ea2, m3, fr3, za3⟩
  have ea3 := fr3.1 _ _ na ea
  have l1 := En_len (t := t) (b := b) (p := p)
  have l2 := En_len (t := t) (b := b) (p := r)
  have eb : bopV .add (.ref a) (.ref a2) h3 = .ok (.ref h3.length) (h3 ++ [.lst (intsV (En t p b) ++ intsV (En t r b))]) := by
    have : (intsV (En t p b)).length + (intsV (En t r b)).length ≤ szl := by rw [ints_len, ints_len]; simp only [szl]; omega
    simp [bopV, ea3, ea2, this]
  rw [W_okI eb]
  have e4 : (lstOf (.ref h3.length) (h3 ++ [PO.lst (intsV (En t p b) ++ intsV (En t r b))])).bind intsOf = some ((En t p b ++ En t r b).map fun x => ((x : Nat) : Int)) := by
    rw [lst_of get_new, Option.bind_some]
    have : intsV (En t p b) ++ intsV (En t r b) = intsV (En t p b ++ En t r b) := by simp [intsV]
    rw [this, intsOf_ints]
  rw [W_sset e4 (by rw [List.length_map, List.length_append]; omega)]
  exact EP.new (m3.pf PF.app) ((fr.trans fr3).trans (Fr.pf PF.app)) (sortU_nats En_asc En_or)
theorem eo_join (lt : t.length ≤ 5) (ed : EdW t P q kn p n) (er : EdW t P q kn r n) : EoW t P q kn (.join p r) (n + 1) := fun Z b h hb m => by
  refine W_call (by omega) rfl rfl fun k hk => ?_
  obtain rfl : k = n := by omega
  have lz : t.length ≤ szl := by simp only [szl]; omega
  simp -implicitDefEqProofs [c_Matcher__ends_of, enc, kJ, W_fldI m.ins, lkT, len_str (s := t) (h := h) lz, in_two, szl]
  rw [clsOf_ins (m := "ends") (ks := ["Matcher"]) m.ins (by simp [List.lookup]) (by simp), KO_some]
  refine (ed Z b h hb m).use ?_
  rintro _ h2 ⟨a, rfl, na, ea, m2, fr, za⟩
  rw [W_sc2, W_evs1, W_v]
  simp only [List.getElem?_cons_succ, List.getElem?_cons_zero, Option.bind_some, id, KO_some, W_evs0]
  rw [its_lst ea]
  refine ⟨_, rfl, ?_⟩
  refine W_lcC (fun ys rest h' => ∃ pre post, En t p b = pre ++ post ∧ rest = intsV post ∧ ys = intsV (pre.flatMap fun m => En t r m) ∧ MS t P q kn Z h' ∧ Fr kn h2 h') ?_ ?_ _ _ ⟨[], En t p b, rfl, rfl, rfl, m2, Fr.refl⟩
  · rintro ys x rest h' ⟨pre, post, ep, er', rfl, m', fr'⟩
    refine ⟨okG_one (fr'.1 _ _ na ea), ?_⟩
    cases post with
    | nil => simp [intsV] at er'
    | cons y post =>
      simp only [intsV, List.map_cons, List.cons.injEq] at er'
      obtain ⟨rfl, rfl⟩ := er'
      have hy : y ≤ t.length := (mem_En.mp (show y ∈ En t p b by rw [ep]; simp)).1
      rw [W_lc2Step]
      simp -implicitDefEqProofs
      rw [clsOf_ins (m := "ends") (ks := ["Matcher"]) m'.ins (by simp [List.lookup]) (by simp), KO_some]
      refine (er Z y h' hy m').use ?_
      rintro _ h3 ⟨a3, rfl, na3, ea3, m3, fr3, za3⟩
      rw [its_lst ea3]
      have lp : (pre.flatMap fun m => En t r m).length ≤ pre.length * 6 := flat_len fun m _ => by have := En_len (t := t) (b := m) (p := r); omega
      have l1 : pre.length ≤ 6 := by
        have := En_len (t := t) (b := b) (p := p)
        rw [ep, List.length_append] at this
        omega
      have l2 := En_len (t := t) (b := y) (p := r)
      refine KLC3_of (by rw [ints_len, ints_len]; simp only [szl]; omega) (W_id (by simp) (okG_one ea3) ?_)
      exact ⟨pre ++ [y], post, by rw [ep]; simp, rfl, by simp [intsV], m3, fr'.trans fr3⟩
  · rintro ys h' ⟨pre, post, ep, er', rfl, m', fr'⟩
    have e0 : post = [] := by simpa [intsV] using er'.symm
    subst e0
    rw [List.append_nil] at ep
    refine ⟨okG_one (fr'.1 _ _ na ea), _, intsOf_ints, ?_, ?_⟩
    · have lp : (pre.flatMap fun m => En t r m).length ≤ pre.length * 6 := flat_len fun m _ => by have := En_len (t := t) (b := m) (p := r); omega
      have l1 := En_len (t := t) (b := b) (p := p)
      rw [ep] at l1
      rw [List.length_map]
      omega
    · exact EP.new m' (fr.trans fr') (sortU_nats En_asc fun k => by rw [En_joinL, ep])
end
end Mk14
set_option linter.all false
set_option maxRecDepth 10000
namespace Mk14
open Mi Lib
theorem ev_v {cl : Cl} {ρ : Mi.Env} {h : PH} {i : Nat} {x : PV} (e : ρ[i]? = some (some x)) : ev cl (.v i) ρ h = .ok x h := by
  simp [ev, e]
theorem insI_perm {x : Int} : ∀ {l : List Int}, (insI x l).Perm (x :: l)
  | [] => .refl _
  | y :: r => by
    rw [insI]
    split
    · exact .refl _
    · exact (insI_perm.cons y).trans (.swap x y r)
theorem sortI_perm : ∀ {l : List Int}, (sortI l).Perm l
  | [] => .refl _
  | x :: r => by
    rw [sortI]
    exact insI_perm.trans (sortI_perm.cons x)
theorem insI_le {x : Int} : ∀ {l : List Int}, l.Pairwise (· ≤ ·) → (insI x l).Pairwise (· ≤ ·)
  | [], _ => by simp [insI]
  | y :: r, p => by
    obtain ⟨p1, p2⟩ := List.pairwise_cons.mp p
    rw [insI]
    split
    · rename_i h
      refine List.pairwise_cons.mpr ⟨fun z hz => ?_, p⟩
      rcases List.mem_cons.mp hz with rfl | hz
      · exact h
      · exact Int.le_trans h (p1 z hz)
    · refine List.pairwise_cons.mpr ⟨fun z hz => ?_, insI_le p2⟩
      rcases List.mem_cons.mp (insI_perm.mem_iff.mp hz) with rfl | hz
      · omega
      · exact p1 z hz
theorem sortI_le : ∀ {l : List Int}, (sortI l).Pairwise (· ≤ ·)
  | [] => List.Pairwise.nil
  | x :: r => by rw [sortI]; exact insI_le sortI_le
/-- states, sorted -/
theorem sort_nat {A : List Nat} (nd : A.Nodup) : ∃ A1 : List Nat, (sortI (A.map fun x => ((x : Nat) : Int))).map PV.int = intsV A1 ∧ A1.Pairwise (· < ·) ∧ ∀ x, x ∈ A1 ↔ x ∈ A := by
  refine ⟨(sortI (A.map fun x => ((x : Nat) : Int))).map Int.toNat, ?_, ?_, fun x => ?_⟩
  · unfold intsV
    rw [List.map_map]
    apply List.map_congr_left
    intro x hx
    obtain ⟨y, _, rfl⟩ := List.mem_map.mp (sortI_perm.mem_iff.mp hx)
    simp
  · rw [List.pairwise_map]
    have h1 := sortI_le (l := A.map fun x => ((x : Nat) : Int))
    have h2 : (sortI (A.map fun x => ((x : Nat) : Int))).Nodup := sortI_perm.nodup_iff.mpr (nodup_cast nd)
    refine (h1.and h2).imp_of_mem fun {a b} ha hb h => ?_
    obtain ⟨y, _, rfl⟩ := List.mem_map.mp (sortI_perm.mem_iff.mp ha)
    obtain ⟨z, _, rfl⟩ := List.mem_map.mp (sortI_perm.mem_iff.mp hb)
    have := h.1
    have := h.2
    simp only [Int.toNat_natCast]
    omega
  · rw [List.mem_map]
    constructor
    · rintro ⟨y, hy, rfl⟩
      obtain ⟨z, hz, rfl⟩ := List.mem_map.mp (sortI_perm.mem_iff.mp hy)
      simpa using hz
    · intro hx
      exact ⟨x, sortI_perm.mem_iff.mpr (List.mem_map_of_mem (f := fun x : Nat => (x : Int)) hx), by simp⟩
section
variable {t : List Char} {P : List Pt} {q kn : Nat} {p r : Pt} {n : Nat}
theorem eo_star (lt : t.length ≤ 100) (es : ∀ (Z : Nat → Prop) (b : Nat) (h : PH), b ≤ t.length → MS t P q kn Z h → W (callN tab n (.m "Matcher" "ends_of_star") [.ref q, enc p, .int (b : Nat)] h) (EP t P q kn (.star p) Z b h) no) : EoW t P q kn (.star p) (n + 1) := fun Z b h hb m => by
  refine W_call (by omega) rfl rfl fun k hk => ?_
  obtain rfl : k = n := by omega
  have lz : t.length ≤ szl := by simp only [szl]; omega
  simp -implicitDefEqProofs [c_Matcher__ends_of, enc, kSt, W_fldI m.ins, lkT, len_str (s := t) (h := h) lz, in_two, szl]
  have m2 : MS t P q kn Z (h ++ [.lst []]) := m.pf PF.app
  rw [clsOf_ins (m := "ends_of_star") (ks := ["Matcher"]) m2.ins (by simp [List.lookup]) (by simp), KO_some]
  refine (es Z b _ hb m2).use ?_
  rintro _ h2 ⟨a, rfl, na, ea, m3, fr, za⟩
  exact ⟨a, rfl, na, ea, m3, (Fr.pf PF.app).trans fr, za⟩
def stFor : List S := [.ite (.cmp .notin (.v 5) (.v 3)) [.seti (.v 3) (.v 5) (.k (.bl true)), .ex (.mth "append" (.v 4) [.v 5])] []]
/-- what was found, what is still to be looked at -/
structure SB (t : List Char) (P : List Pt) (q kn : Nat) (Z : Nat → Prop) (p : Pt) (b d l : Nat) (h : PH) (F L : List Nat) (g : PH) : Prop where
  ed : g[d]? = some (.dic (seenV F))
  el : g[l]? = some (.lst (intsV L))
  m : MS t P q kn Z g
  fr : Fr kn h g
  nd : F.Nodup
  hb : b ∈ F
  rc : ∀ x ∈ F, Rch t p b x ∧ x ≤ t.length
  sub : ∀ x ∈ L, x ∈ F
  ll : L.length ≤ F.length
theorem SB.few {Z : Nat → Prop} {b d l : Nat} {h g : PH} {F L : List Nat} (s : SB t P q kn Z p b d l h F L g) : F.length ≤ t.length + 1 := nodup_le _ _ s.nd fun x hx => by have := (s.rc x hx).2; omega
/-- one of the ends -/
theorem SB.put {Z : Nat → Prop} {b d l y : Nat} {h g : PH} {F L : List Nat} (s : SB t P q kn Z p b d l h F L g) (hy : y ∉ F) (ry : Rch t p b y ∧ y ≤ t.length) (zd : Z d) (zl : Z l) (dl : d ≠ l) (hd : h.length ≤ d) (hl : h.length ≤ l) (qd : d ≠ q) (ql : l ≠ q) (kd : d ≠ kn) (kl : l ≠ kn) :
    SB t P q kn Z p b d l h (F ++ [y]) (L ++ [y]) ((g.set d (.dic (seenV (F ++ [y])))).set l (.lst (intsV (L ++ [y])))) := by
  have e1 : (g.set d (.dic (seenV (F ++ [y]))))[l]? = some (.lst (intsV L)) := by
    rw [List.getElem?_set_ne dl]
    exact s.el
  refine ⟨?_, get_set e1, (s.m.set zd qd kd).set zl ql kl, ⟨fun i o ni e => ?_, ?_⟩, ?_, ?_, fun x hx => ?_, fun x hx => ?_, by rw [List.length_append, List.length_append]; have := s.ll; simp; omega⟩
  · rw [List.getElem?_set_ne dl.symm]
    exact get_set s.ed
  · have := (List.getElem?_eq_some_iff.mp e).1
    rw [List.getElem?_set_ne (by omega), List.getElem?_set_ne (by omega)]
    exact s.fr.1 i o ni e
  · rw [List.length_set, List.length_set]
    exact s.fr.2
  · exact List.nodup_append.mpr ⟨s.nd, by simp, fun a ha c hc e => by
      have hc : c = y := by simpa using hc
      exact hy (by rw [← hc, ← e]; exact ha)⟩
  · exact List.mem_append_left _ s.hb
  · rcases List.mem_append.mp hx with hx | hx
    · exact s.rc x hx
    · have : x = y := by simpa using hx
      rw [this]
      exact ry
  · rcases List.mem_append.mp hx with hx | hx
    · exact List.mem_append_left _ (s.sub x hx)
    · exact List.mem_append_right _ hx
theorem seen_in {h : PH} {d y : Nat} {F : List Nat} (e : h[d]? = some (.dic (seenV F))) : inV (.int (y : Nat)) (.ref d) h = some (decide (y ∈ F)) := by
  simp only [inV, e, keyOk, if_true]
  rw [look_seen]
theorem seen_set {h : PH} {d y : Nat} {F : List Nat} (e : h[d]? = some (.dic (seenV F))) (hy : y ∉ F) (l : F.length < 1000) : setiV (.ref d) (.int (y : Nat)) (.bl true) h = .ok () (h.set d (.dic (seenV (F ++ [y])))) := by
  simp only [setiV, e, keyOk, Bool.true_and]
  rw [if_pos (by simp [seenV, szl]; omega), put_seen hy]
/-- the walk over the ends of one place -/
theorem star_for {cl : Cl} {Z : Nat → Prop} {b d l x a : Nat} {h g : PH} {F L : List Nat} {v5 : Option PV} {Q : Fl → PH → Prop} {X : EQ} (lt : t.length ≤ 100) (s : SB t P q kn Z p b d l h F L g) (hx : x ∈ F) (zd : Z d) (zl : Z l) (dl : d ≠ l) (hd : h.length ≤ d) (hl : h.length ≤ l) (qd : d ≠ q) (ql : l ≠ q) (kd : d ≠ kn) (kl : l ≠ kn)
    (na : a ≠ kn) (za : ¬ Z a) (ea : g[a]? = some (.lst (intsV (En t p x)))) (clo : ∀ z ∈ F, z ∉ L → z ≠ x → ∀ y ∈ En t p z, y ∈ F)
    (k : ∀ F1 L1 g1 v, SB t P q kn Z p b d l h F1 L1 g1 → (∀ z ∈ F1, z ∉ L1 → ∀ y ∈ En t p z, y ∈ F1) → t.length + 1 - F1.length + L1.length ≤ t.length + 1 - F.length + L.length → Q (.nx [some (.ref q), some (enc p), some (.int (b : Nat)), some (.ref d), some (.ref l), v]) g1) :
    KL cl (.nm 5) stFor [some (.ref q), some (enc p), some (.int (b : Nat)), some (.ref d), some (.ref l), v5] g Q X (itsOf .val [.ref a] g) := by
  rw [its_lst ea]
  refine KL_of (W_forL (fun r ρ g1 => ∃ F1 L1 pre post v, En t p x = pre ++ post ∧ r = intsV post ∧ ρ = [some (.ref q), some (enc p), some (.int (b : Nat)), some (.ref d), some (.ref l), v] ∧ SB t P q kn Z p b d l h F1 L1 g1 ∧ g1[a]? = some (.lst (intsV (En t p x))) ∧ x ∈ F1 ∧ (∀ y ∈ pre, y ∈ F1) ∧
      (∀ z ∈ F1, z ∉ L1 → z ≠ x → ∀ y ∈ En t p z, y ∈ F1) ∧ t.length + 1 - F1.length + L1.length ≤ t.length + 1 - F.length + L.length) ?_ ?_ _ _ _ ⟨F, L, [], En t p x, v5, rfl, rfl, rfl, s, ea, hx, fun y hy => (nomatch hy), clo, Nat.le_refl _⟩)
  · rintro y0 r ρ g1 ⟨F1, L1, pre, post, v, ep, er, rfl, s1, ea1, hx1, hp, clo1, le1⟩
    refine ⟨okG_one ea1, ?_⟩
    cases post with
    | nil => simp [intsV] at er
    | cons y post =>
      simp only [intsV, List.map_cons, List.cons.injEq] at er
      obtain ⟨rfl, rfl⟩ := er
      have yE : y ∈ En t p x := by rw [ep]; simp
      have few := s1.few
      rw [W_step, stFor, W_cons, W_ite, W_cmp]
      simp only [List.set_cons_succ, List.set_cons_zero]
      rw [W_okI (ev_v rfl), W_okI (ev_v rfl), W_notin, seen_in s1.ed, KO_some, tru_bl, KO_some]
      by_cases hy : y ∈ F1
      · simp only [hy, decide_true, Bool.not_true, KI_f, W_nil, KF_nx, KR_nx]
        exact ⟨F1, L1, pre ++ [y], post, _, by rw [ep]; simp, rfl, rfl, s1, ea1, hx1, fun z hz => by
          rcases List.mem_append.mp hz with hz | hz
          · exact hp z hz
          · have : z = y := by simpa using hz
            rw [this]; exact hy, clo1, le1⟩
      · simp only [hy, decide_false, Bool.not_false, KI_t]
        rw [W_cons, W_seti, W_k, W_okI (ev_v rfl), W_okI (ev_v rfl), W_okI (seen_set s1.ed hy (by omega)), KF_nx, W_cons, W_ex, W_mth, W_okI (ev_v rfl)]
        have e2 : (g1.set d (.dic (seenV (F1 ++ [y]))))[l]? = some (.lst (intsV L1)) := by
          rw [List.getElem?_set_ne dl]
          exact s1.el
        refine ⟨(mok_l e2).1, ?_⟩
        rw [W_evs1, W_okI (ev_v rfl), W_evs0, W_app e2]
        have e3 : intsV L1 ++ [PV.int (y : Nat)] = intsV (L1 ++ [y]) := by simp [intsV]
        rw [e3]
        have ry := (s1.rc x hx1).1.snoc yE
        have yl := (mem_En.mp yE).1
        have s2 := s1.put hy ⟨ry, yl⟩ zd zl dl hd hl qd ql kd kl
        have f2 := s2.few
        rw [List.length_append, List.length_singleton] at f2
        refine ⟨?_, ?_⟩
        · rw [ints_len]
          have := s1.ll
          simp only [szl]; omega
        simp only [W_nil, KF_nx, KR_nx]
        refine ⟨F1 ++ [y], L1 ++ [y], pre ++ [y], post, _, by rw [ep]; simp, rfl, rfl, s2, ?_, List.mem_append_left _ hx1, fun z hz => ?_, fun z hz nz nx y' hy' => ?_, ?_⟩
        · rw [List.getElem?_set_ne (fun z => za (by rw [← z]; exact zl)), List.getElem?_set_ne (fun z => za (by rw [← z]; exact zd))]
          exact ea1
        · rcases List.mem_append.mp hz with hz | hz
          · exact List.mem_append_left _ (hp z hz)
          · exact List.mem_append_right _ hz
        · rcases List.mem_append.mp hz with hz | hz
          · exact List.mem_append_left _ (clo1 z hz (fun w => nz (List.mem_append_left _ w)) nx y' hy')
          · exact absurd (List.mem_append_right _ hz) nz
        · simp only [List.length_append, List.length_singleton]
          omega
  · rintro ρ g1 ⟨F1, L1, pre, post, v, ep, er, rfl, s1, ea1, hx1, hp, clo1, le1⟩
    have e0 : post = [] := by simpa [intsV] using er.symm
    subst e0
    rw [List.append_nil] at ep
    refine ⟨okG_one ea1, k F1 L1 g1 v s1 (fun z hz nz y hy => ?_) le1⟩
    by_cases e : z = x
    · subst e
      exact hp y (ep ▸ hy)
    · exact clo1 z hz nz e y hy
theorem SB.fr' {Z : Nat → Prop} {b d l : Nat} {h g g' : PH} {F L : List Nat} (s : SB t P q kn Z p b d l h F L g) (m' : MS t P q kn Z g') (f : Fr kn g g') (kd : d ≠ kn) (kl : l ≠ kn) : SB t P q kn Z p b d l h F L g' :=
  ⟨f.1 _ _ kd s.ed, f.1 _ _ kl s.el, m', s.fr.trans f, s.nd, s.hb, s.rc, s.sub, s.ll⟩
theorem SB.pop {Z : Nat → Prop} {b d l x : Nat} {h g : PH} {F L : List Nat} (s : SB t P q kn Z p b d l h F (L ++ [x]) g) (zl : Z l) (dl : d ≠ l) (hl : h.length ≤ l) (ql : l ≠ q) (kl : l ≠ kn) : SB t P q kn Z p b d l h F L (g.set l (.lst (intsV L))) := by
  refine ⟨?_, get_set s.el, s.m.set zl ql kl, ⟨fun i o ni e => ?_, by rw [List.length_set]; exact s.fr.2⟩, s.nd, s.hb, s.rc, fun y hy => s.sub y (List.mem_append_left _ hy), by have := s.ll; rw [List.length_append] at this; omega⟩
  · rw [List.getElem?_set_ne dl.symm]
    exact s.ed
  · have := (List.getElem?_eq_some_iff.mp e).1
    rw [List.getElem?_set_ne (by omega)]
    exact s.fr.1 i o ni e
/-- all is found -/
theorem SB.done {Z : Nat → Prop} {b d l : Nat} {h g : PH} {F r : List Nat} (s : SB t P q kn Z p b d l h F [] g) (clo : ∀ z ∈ F, z ∉ ([] : List Nat) → ∀ y ∈ En t p z, y ∈ F) (hb : b ≤ t.length) (as : r.Pairwise (· < ·)) (me : ∀ x, x ∈ r ↔ x ∈ F) : r = En t (.star p) b := by
  refine asc_ext as En_asc fun x => ?_
  rw [me, En_star hb]
  constructor
  · exact fun hx => ⟨(s.rc x hx).2, (s.rc x hx).1⟩
  · rintro ⟨_, hr⟩
    have go : ∀ {z x : Nat}, Rch t p z x → z ∈ F → x ∈ F := by
      intro z x r
      induction r with
      | here => exact id
      | step h _ ih => exact fun hz => ih (clo _ hz (by simp) _ h)
    exact go hr s.hb
theorem star_W (lt : t.length ≤ 5) (ed : EdW t P q kn p n) : ∀ (Z : Nat → Prop) (b : Nat) (h : PH), b ≤ t.length → MS t P q kn Z h → W (callN tab (n + 1) (.m "Matcher" "ends_of_star") [.ref q, enc p, .int (b : Nat)] h) (EP t P q kn (.star p) Z b h) no := by
  intro Z b h hb m
  refine W_call (by omega) rfl rfl fun k hk => ?_
  obtain rfl : k = n := by omega
  have kl := m.klt
  have ql : q < h.length := (List.getElem?_eq_some_iff.mp m.ins).1
  unfold c_Matcher__ends_of_star
  simp only [List.map_cons, List.map_nil, List.cons_append, List.nil_append, List.replicate]
  rw [W_cons]
  simp -implicitDefEqProofs [-W_cons, -List.append_assoc, kvsOf, keyOk, putAll, putK, szl]
  rw [W_cons, W_whl]
  generalize hK : KF _ _ _ _ = K
  have e0 : h ++ [PO.dic [(PV.int ↑b, PV.bl true)]] ++ [PO.lst [PV.int ↑b]] = h ++ [PO.dic (seenV [b])] ++ [PO.lst (intsV [b])] := rfl
  rw [e0]
  have p0 : PF h (h ++ [PO.dic (seenV [b])] ++ [PO.lst (intsV [b])]) := PF.app.trans PF.app
  have s0 : SB t P q kn (fun z => Z z ∨ z = h.length ∨ z = h.length + 1) p b h.length (h.length + 1) h [b] [b] (h ++ [PO.dic (seenV [b])] ++ [PO.lst (intsV [b])]) := by
    refine ⟨by simp, by simp, m.more p0 fun z hz => ?_, Fr.pf p0, by simp, by simp, fun x hx => ?_, fun x hx => hx, Nat.le_refl _⟩
    · rcases hz with hz | hz | hz
      · exact ⟨Nat.lt_of_lt_of_le (m.zl z hz) p0.len, .inl hz⟩
      · exact ⟨by simp; omega, .inr (by omega)⟩
      · exact ⟨by simp; omega, .inr (by omega)⟩
    · have : x = b := by simpa using hx
      subst this
      exact ⟨.here _, hb⟩
  refine W_while (fun N ρ g => ∃ F L v, ρ = [some (.ref q), some (enc p), some (.int (b : Nat)), some (.ref h.length), some (.ref (h.length + 1)), v] ∧ SB t P q kn (fun z => Z z ∨ z = h.length ∨ z = h.length + 1) p b h.length (h.length + 1) h F L g ∧ (∀ z ∈ F, z ∉ L → ∀ y ∈ En t p z, y ∈ F) ∧ t.length + 1 - F.length + L.length ≤ N) ?_ 10 wfuel _ _ (by decide)
    ⟨[b], [b], none, rfl, s0, fun z hz nz => absurd hz nz, by simp; omega⟩
  rintro N ρ g ⟨F, L, v, rfl, s, clo, le⟩
  simp only [tst, W_bind]
  simp -implicitDefEqProofs [-List.length_append, -List.append_assoc, -W_cons]
  rw [emp_ne s.el]
  have pg : PF g (g ++ [PO.lst []]) := PF.app
  have s1 := s.fr' (s.m.pf pg) (Fr.pf pg) (by omega) (by omega)
  generalize g ++ [PO.lst []] = g1 at *
  simp -implicitDefEqProofs [-List.length_append, -List.append_assoc, -W_cons]
  rcases List.eq_nil_or_concat L with rfl | ⟨L', x, rfl⟩
  · simp [intsV, -W_cons]
    subst hK
    obtain ⟨r, er, as, me⟩ := sort_nat s1.nd
    have few := s1.few
    have ek : (dkeys (.ref h.length) g1).bind intsOf = some (F.map fun x => ((x : Nat) : Int)) := by
      have : dkeys (.ref h.length) g1 = some (intsV F) := by
        simp only [dkeys, s1.ed, seenV, intsV, List.map_map]
        rfl
      rw [this, Option.bind_some, intsOf_ints]
    have eb : bltV "sorted dict" [.ref h.length] g1 = .ok (.ref g1.length) (g1 ++ [.lst (intsV r)]) := by
      simp only [bltV, ek]
      rw [if_pos (by rw [List.length_map]; omega), er]
    rw [KF_nx, W_cons, W_ret, W_blt, W_evs1, W_okI (ev_v rfl), W_evs0, W_okI eb, KF_rt, KE_rt]
    exact EP.new (s1.m.less fun z hz => .inl hz) s1.fr (by rw [s1.done clo hb as me])
  · rw [List.concat_eq_append] at *
    rw [if_neg (by simp [intsV])]
    have hx : x ∈ F := s1.sub x (by simp)
    have rx := s1.rc x hx
    have ep : intsV (L' ++ [x]) = intsV L' ++ [PV.int (x : Nat)] := by simp [intsV]
    have el := s1.el
    rw [ep] at el
    rw [W_cons, W_for, W_evs1, W_mto, W_okI (ev_v rfl), clsOf_ins (m := "ends") (ks := ["Matcher"]) s1.m.ins (by simp [List.lookup]) (by simp), KO_some, W_evs1, W_okI (ev_v rfl), W_evs1, W_mth, W_okI (ev_v rfl)]
    refine ⟨(mok_l el).2.2, ?_⟩
    rw [W_evs0, W_pop el, W_evs0]
    have s2 := s1.pop (.inr (.inr rfl)) (by omega) (by omega) (by omega) (by omega)
    generalize g1.set (h.length + 1) (.lst (intsV L')) = g2 at *
    refine W.mono (ed _ x g2 rx.2 s2.m) ?_ (fun _ _ z => z.elim)
    rintro _ g3 ⟨a, rfl, na, ea, m3, fr3, za⟩
    have s3 := s2.fr' m3 fr3 (by omega) (by omega)
    rw [W_evs0]
    refine star_for (by omega) s3 hx (.inr (.inl rfl)) (.inr (.inr rfl)) (by omega) (by omega) (by omega) (by omega) (by omega) (by omega) (by omega) na za ea (fun z hz nz nx y hy => clo z hz (fun w => ?_) y hy) fun F1 L1 g4 v' s4 clo4 le4 => ?_
    · rcases List.mem_append.mp w with w | w
      · exact nz w
      · exact nx (by simpa using w)
    · rw [KF_nx, W_nil, KR_nx]
      have few := s3.few
      rw [List.length_append, List.length_singleton] at le
      exact ⟨N - 1, by omega, ⟨v', rfl⟩, F1, L1, s4, clo4, by omega⟩
end
end Mk14
set_option linter.all false
set_option maxRecDepth 10000
namespace Mk14
open Mi Lib
instance : HAlp tab := ⟨rfl, rfl⟩
instance : HTxt tab := { txt := rfl }
instance : HBeg tab := ⟨rfl⟩
instance : HPick tab := { draw := rfl, pick := rfl }
def subs : Pt → List Pt
  | .not_ a => .not_ a :: subs a
  | .star a => .star a :: subs a
  | .join a b => .join a b :: (subs a ++ subs b)
  | .or_ a b => .or_ a b :: (subs a ++ subs b)
  | .and_ a b => .and_ a b :: (subs a ++ subs b)
  | p => [p]
theorem subs_len (p : Pt) : (subs p).length = sz p := by
  induction p with
  | not_ a ia => simp [subs, sz, ia]; omega
  | star a ia => simp [subs, sz, ia]; omega
  | join a b ia ib => simp [subs, sz, ia, ib]; omega
  | or_ a b ia ib => simp [subs, sz, ia, ib]; omega
  | and_ a b ia ib => simp [subs, sz, ia, ib]; omega
  | _ => rfl
section
variable {t : List Char} {P : List Pt} {q kn : Nat}
theorem ends_all (lt : t.length ≤ 5) (lP : P.length ≤ 1000) : ∀ (p : Pt), (∀ s ∈ subs p, s ∈ P) → dep p ≤ 7 → ∀ n, 3 * dep p ≤ n → EdW t P q kn p n := by
  intro p
  have l1 : t.length ≤ 100 := by omega
  have up : ∀ {p : Pt} {n : Nat}, p ∈ P → dep p ≤ 7 → 1 ≤ n → EoW t P q kn p (n - 1) → EdW t P q kn p n := fun {p n} hP d hn e => by
    have z := ends_W hP d lP l1 e
    have e1 : n - 1 + 1 = n := by omega
    rw [e1] at z
    exact z
  have e2 : ∀ {n : Nat}, 3 ≤ n → n - 1 = (n - 2) + 1 := fun h => by omega
  induction p with
  | non =>
      intro hP d n hn
      simp only [dep] at hn
      refine up (hP _ (by simp [subs])) d (by omega) ?_
      rw [e2 (by omega)]
      exact eo_non l1
  | emp =>
      intro hP d n hn
      simp only [dep] at hn
      refine up (hP _ (by simp [subs])) d (by omega) ?_
      rw [e2 (by omega)]
      exact eo_emp l1
  | any =>
      intro hP d n hn
      simp only [dep] at hn
      refine up (hP _ (by simp [subs])) d (by omega) ?_
      rw [e2 (by omega)]
      exact eo_any l1
  | let_ c =>
      intro hP d n hn
      simp only [dep] at hn
      refine up (hP _ (by simp [subs])) d (by omega) ?_
      rw [e2 (by omega)]
      exact eo_let l1
  | not_ a ia =>
      intro hP d n hn
      have d' := d
      simp only [dep] at hn d
      refine up (hP _ (by simp [subs])) d' (by omega) ?_
      rw [e2 (by omega)]
      exact eo_not l1 (ia (fun s hs => hP s (by simp [subs, hs])) (by omega) _ (by omega))
  | star a ia =>
      intro hP d n hn
      have d' := d
      simp only [dep] at hn d
      refine up (hP _ (by simp [subs])) d' (by omega) ?_
      rw [e2 (by omega)]
      have e3 : n - 2 = (n - 3) + 1 := by omega
      refine eo_star l1 ?_
      rw [e3]
      exact star_W lt (ia (fun s hs => hP s (by simp [subs, hs])) (by omega) _ (by omega))
  | join a b ia ib =>
      intro hP d n hn
      have d' := d
      simp only [dep] at hn d
      refine up (hP _ (by simp [subs])) d' (by omega) ?_
      rw [e2 (by omega)]
      exact eo_join lt (ia (fun s hs => hP s (by simp [subs, hs])) (by omega) _ (by omega)) (ib (fun s hs => hP s (by simp [subs, hs])) (by omega) _ (by omega))
  | or_ a b ia ib =>
      intro hP d n hn
      have d' := d
      simp only [dep] at hn d
      refine up (hP _ (by simp [subs])) d' (by omega) ?_
      rw [e2 (by omega)]
      exact eo_or lt (ia (fun s hs => hP s (by simp [subs, hs])) (by omega) _ (by omega)) (ib (fun s hs => hP s (by simp [subs, hs])) (by omega) _ (by omega))
  | and_ a b ia ib =>
      intro hP d n hn
      have d' := d
      simp only [dep] at hn d
      refine up (hP _ (by simp [subs])) d' (by omega) ?_
      rw [e2 (by omega)]
      exact eo_and l1 (ia (fun s hs => hP s (by simp [subs, hs])) (by omega) _ (by omega)) (ib (fun s hs => hP s (by simp [subs, hs])) (by omega) _ (by omega))
end
theorem al_of {abc : List Char} (l : abc.length < 60) (a : alphB abc = true) : Al abc := fun n h hn => by
  refine W.mono (let_W hn l a) ?_ (fun _ _ z => z)
  exact fun r h' z => z
theorem init_W {w : List Char} {n q : Nat} {g : PH} (hn : 1 ≤ n) (e : g[q]? = some (.ins "Matcher" [])) :
    W (callN tab n (.m "Matcher" "__init__") [.ref q, .str w] g) (fun r g' => r = .non ∧ g'[q]? = some (.ins "Matcher" [("text", .str w), ("known", .ref g.length)]) ∧ g'[g.length]? = some (.dic []) ∧ (∀ i o, i ≠ q → g[i]? = some o → g'[i]? = some o) ∧ g'.length = g.length + 1) no := by
  refine W_call (by omega) rfl rfl fun k hk => ?_
  have ql := (List.getElem?_eq_some_iff.mp e).1
  unfold c_Matcher____init__
  simp only [List.map_cons, List.map_nil, List.cons_append, List.nil_append, List.replicate]
  rw [W_cons, W_setf, W_okI (ev_v rfl), W_okI (ev_v rfl), W_setfI e (by simp), KF_nx]
  have e1 : (g.set q (.ins "Matcher" (putFs "text" (.str w) [])))[q]? = some (.ins "Matcher" [("text", .str w)]) := get_set e
  have l1 : (g.set q (.ins "Matcher" (putFs "text" (.str w) []))).length = g.length := by simp
  have k1 : ∀ i o, i ≠ q → g[i]? = some o → (g.set q (.ins "Matcher" (putFs "text" (.str w) [])))[i]? = some o := fun i o ni e => by
    rw [List.getElem?_set_ne fun z => ni z.symm]
    exact e
  generalize g.set q (.ins "Matcher" (putFs "text" (.str w) [])) = g1 at *
  rw [W_cons, W_setf, W_dct, W_okI (ev_v rfl), W_setfI (get_app e1) (by simp), KF_nx, W_nil, KE_nx]
  refine ⟨rfl, ?_, ?_, fun i o ni e => ?_, by simp [l1]⟩
  · rw [get_set (get_app e1), l1]
    rfl
  · rw [List.getElem?_set_ne (by omega), ← l1]
    exact get_new
  · rw [List.getElem?_set_ne fun z => ni z.symm]
    exact get_app (k1 i o ni e)
/-- matches, of a pattern and a text -/
theorem matches_W {abc w : List Char} {p : Pt} {n : Nat} {h : PH} (l : abc.length < 60) (a : alphB abc = true) (wp : wf abc p = true) (d : dep p ≤ 7) (z : sz p ≤ 60) (ww : wrd abc w) (lw : w.length ≤ 5) (hn : 30 ≤ n) :
    W (callN tab n (.f "matches") [.str abc, enc p, .str w] h) (fun r h' => r = .bl (mt p w) ∧ PF h h') no := by
  refine W_call (by omega) rfl rfl fun k hk => ?_
  have lz : w.length ≤ szl := by simp only [szl]; omega
  have yes1 : yes abc 0 [(enc p, 1)] = true := by
    rw [yes_1, szP_enc wp (by omega)]
    simp [z]
  unfold c_matches
  rw [W_cons]
  simp [-W_cons]
  refine (need_W2 (n := k) (h := h) (al_of l a) (by omega) (fine_enc p)).mono ?_ ?_
  · rintro _ h1 ⟨_, p1⟩
    rw [W_cons]
    simp [-W_cons]
    refine (txt_W (n := k) (by omega) l a (rfl : tyN (.str w) h1 = some "str") (.inl ⟨w, rfl, by simp only [szl]; omega⟩)).use ?_
    rintro _ h2 ⟨rfl, p2⟩
    rw [wrd_txt ww]
    simp [-W_cons]
    rw [W_cons, W_ret, W_cmp, W_blt, W_evs1, W_okI (ev_v rfl), W_evs0, W_len, len_str lz, KO_some, W_mto, W_new, W_evs1, W_okI (ev_v rfl), W_evs0]
    have eq : (h2 ++ [PO.ins "Matcher" []])[h2.length]? = some (.ins "Matcher" []) := get_new
    refine W.mono (init_W (n := k) (w := w) (by omega) eq) ?_ (fun _ _ z => z.elim)
    rintro _ h3 ⟨rfl, i1, i2, i3, i4⟩
    refine ⟨rfl, ?_⟩
    rw [List.length_append, List.length_singleton] at i1 i2 i4
    have p3 : PF h2 h3 := fun i o e => i3 i o (by have := (List.getElem?_eq_some_iff.mp e).1; omega) (get_app e)
    have m3 : MS w (subs p) h2.length (h2.length + 1) (fun _ => False) h3 := ⟨i1, by omega, ⟨[], i2, by simp, fun x hx => (nomatch hx)⟩, fun z hz => hz.elim⟩
    rw [clsOf_ins (m := "ends") (ks := ["Matcher"]) m3.ins (by simp [List.lookup]) (by simp), KO_some, W_evs1, W_okI (ev_v rfl), W_evs1, W_k, W_evs0]
    have dp := d
    refine W.mono (ends_all lw (by rw [subs_len]; omega) p (fun s hs => hs) d k (by omega) _ 0 h3 (by omega) m3) ?_ (fun _ _ z => z.elim)
    rintro _ h4 ⟨a1, rfl, na, ea, m4, fr4, _⟩
    rw [W_in, in_lst ea, KO_some, KF_rt, KE_rt]
    refine ⟨?_, fun i o e => fr4.1 i o (by have := (List.getElem?_eq_some_iff.mp ((p1.trans p2.pf) i o e)).1; omega) (p3 i o ((p1.trans p2.pf) i o e))⟩
    congr 1
    rw [Bool.eq_iff_iff, decide_eq_true_eq, mem_En, seg_all]
    simp
  · rintro x h1 ⟨y, _⟩
    rw [yes1] at y
    cases y
end Mk14
set_option linter.all false
set_option maxRecDepth 10000
namespace Mk14
open Mi Lib
def words : List (String × List Char) := [("BadPattern", ['p', 'a', 't', 't', 'e', 'r', 'n']), ("BadText", ['t', 'e', 'x', 't'])]
theorem told_W {n i : Nat} {kb : PH → Mi.R PV} {h : PH} {word : List Char} {c : String} (hn : 1 ≤ n) (g : ∀ h, Gro h (kb h)) (w : W (kb h) (fun _ _ => False) (fun x g => x.cls = c ∧ PF h g)) (hc : (c, word) ∈ words) :
    W (callN tab n (.l "_law_word" kb) [.ref i] h) (fun r g => r = .str word ∧ PF h g) no := by
  refine W_told hn (d := c__law_word) rfl rfl rfl fun m hm => ?_
  rw [c__law_word, W_cons]
  simp [-W_cons]
  rw [W_cons]
  simp [-W_cons]
  rw [W_cons]
  simp [-W_cons]
  rw [W_w (g h)]
  refine W.mono w (fun _ _ z => z.elim) ?_
  rintro ⟨xc, xf⟩ h1 ⟨e, p1⟩
  have e : xc = c := e
  subst e
  simp only [words, List.mem_cons, List.not_mem_nil, or_false, Prod.mk.injEq] at hc
  have ap : PF h1 (h1 ++ [PO.exn xc xf]) := PF.app
  rcases hc with ⟨rfl, rfl⟩ | ⟨rfl, rfl⟩ <;> simp [tyN] <;> exact p1.trans ap
theorem lam_W {k : Nat} {b : E} {ρ : Mi.Env} {h : PH} {word : List Char} {c : String} (hk : 1 ≤ k) (hc : (c, word) ∈ words) (w : W (ev (callN tab k) b ρ (h ++ [.lam])) (fun _ _ => False) (fun x g => x.cls = c ∧ PF (h ++ [.lam]) g)) :
    W (ev (callN tab k) (.lam "_law_word" b) ρ h) (fun r g => r = .str word ∧ PF h g) no := by
  rw [W_lam]
  refine (told_W hk (fun h => ev_gro (callN_gro tab k) b ρ h) w hc).use ?_
  rintro _ g ⟨rfl, p⟩
  exact ⟨rfl, PF.app.trans p⟩
theorem matches_bad {abc : List Char} {v u : PV} {n : Nat} {h : PH} (l : abc.length < 60) (a : alphB abc = true) (f : Fine h v) (nb : nodeB abc v = false) (hn : 30 ≤ n) :
    W (callN tab n (.f "matches") [.str abc, v, u] h) (fun _ _ => False) (fun x g => x.cls = "BadPattern" ∧ PF h g) := by
  refine W_call (by omega) rfl rfl fun k hk => ?_
  have no1 : yes abc 0 [(v, 1)] = false := by
    rw [yes_1, szP, nb]
    rfl
  unfold c_matches
  rw [W_cons]
  simp [-W_cons]
  refine (need_W2 (n := k) (h := h) (al_of l a) (by omega) f).mono ?_ ?_
  · rintro _ h1 ⟨y, _⟩
    rw [no1] at y
    cases y
  · rintro x h1 ⟨_, rfl, p⟩
    exact ⟨rfl, p⟩
theorem matches_odd {abc : List Char} {v : PV} {ty : String} {p : Pt} {n : Nat} {h : PH} (l : abc.length < 60) (a : alphB abc = true) (wp : wf abc p = true) (d : dep p ≤ 7) (z : sz p ≤ 60) (et : tyN v h = some ty) (od : Odd v ty) (tb : txtB abc v = false) (hn : 30 ≤ n) :
    W (callN tab n (.f "matches") [.str abc, enc p, v] h) (fun _ _ => False) (fun x g => x.cls = "BadText" ∧ PF h g) := by
  refine W_call (by omega) rfl rfl fun k hk => ?_
  have yes1 : yes abc 0 [(enc p, 1)] = true := by
    rw [yes_1, szP_enc wp (by omega)]
    simp [z]
  unfold c_matches
  rw [W_cons]
  simp [-W_cons]
  refine (need_W2 (n := k) (h := h) (al_of l a) (by omega) (fine_enc p)).mono ?_ ?_
  · rintro _ h1 ⟨_, p1⟩
    rw [W_cons]
    simp [-W_cons]
    refine (txt_W (n := k) (by omega) l a (ty_pf et p1) od).use ?_
    rintro _ h2 ⟨rfl, p2⟩
    rw [tb]
    simp [szl]
    exact p1.trans p2.pf
  · rintro x h1 ⟨y, _⟩
    rw [yes1] at y
    cases y
end Mk14
set_option linter.all false
set_option maxRecDepth 10000
namespace Mk14
open Mi Lib
theorem odd_p {h : PH} {a1 a2 : Nat} {abc : List Char} {v : PV} (e1 : h[a1]? = some (.lst [.str ['a', 'n', 'y']])) (e2 : h[a2]? = some (.dic [])) (hx : 'x' ∉ abc)
    (m : v ∈ [PV.non, .int 5, .str [], .str ['a'], .tup [], .tup [.str ['s', 't', 'a', 'r']], .ref a1, .tup [.str ['l', 'e', 't', 't', 'e', 'r'], .str ['x']], .tup [.str ['l', 'e', 't', 't', 'e', 'r'], .str []], .ref a2, .tup [.str ['a', 'n', 'y'], .int 1]]) :
    Fine h v ∧ nodeB abc v = false := by
  simp only [List.mem_cons, List.not_mem_nil, or_false] at m
  rcases m with rfl | rfl | rfl | rfl | rfl | rfl | rfl | rfl | rfl | rfl | rfl <;>
    exact ⟨.mk (by simp [rfB, rfBs, lk, e1, e2]) (by simp [shS, szl]) (by simp [kids, kN, kE, kL, kA]), by simp [nodeB, lookK, kv_SIZES, kL, hx]⟩
theorem odd_t {h : PH} {a1 : Nat} {abc : List Char} {v : PV} (l : abc.length < 60) (e1 : h[a1]? = some (.lst [.str ['a']])) (hx : 'x' ∉ abc) (hA : 'A' ∉ abc) (hs : ' ' ∉ abc)
    (m : v ∈ [PV.non, .int 5, .str ['x'], .str (abc ++ ['A']), .ref a1, .tup [.str ['a']], .bl true, .str (abc ++ [' '])]) :
    ∃ ty, tyN v h = some ty ∧ Odd v ty ∧ txtB abc v = false := by
  simp only [List.mem_cons, List.not_mem_nil, or_false] at m
  rcases m with rfl | rfl | rfl | rfl | rfl | rfl | rfl | rfl
  · exact ⟨_, rfl, .inr (by decide), rfl⟩
  · exact ⟨_, rfl, .inr (by decide), rfl⟩
  · exact ⟨_, rfl, .inl ⟨_, rfl, by simp [szl]⟩, by simp [txtB, hx]⟩
  · exact ⟨_, rfl, .inl ⟨_, rfl, by simp [szl]; omega⟩, by simp [txtB, hA]⟩
  · exact ⟨"list", by simp [tyN, e1], .inr (by decide), rfl⟩
  · exact ⟨_, rfl, .inr (by decide), rfl⟩
  · exact ⟨_, rfl, .inr (by decide), rfl⟩
  · exact ⟨_, rfl, .inl ⟨_, rfl, by simp [szl]; omega⟩, by simp [txtB, hs]⟩
/-- what an alphabet of this law is -/
structure Ab (s : List Char) : Prop where
  al : alphB s = true
  len : s.length ≤ 3
  pos : 0 < s.length
  nx : 'x' ∉ s
  nA : 'A' ∉ s
  ns : ' ' ∉ s
theorem ab6 {v : PV} (m : v ∈ [PV.str ['a'], .str ['c'], .str ['a', 'b'], .str ['b', 'd'], .str ['a', 'b', 'c'], .str ['a', 'c', 'd']]) : ∃ s, v = .str s ∧ Ab s := by
  simp only [List.mem_cons, List.not_mem_nil, or_false] at m
  rcases m with rfl | rfl | rfl | rfl | rfl | rfl <;> exact ⟨_, rfl, by decide, by decide, by decide, by decide, by decide, by decide⟩
def cost : Nat → Nat
  | 0 => 3
  | d + 1 => 3 + 2 * cost d
def szm : Nat → Nat
  | 0 => 1
  | d + 1 => 1 + 2 * szm d
/-- a pattern of depth at most d + 1 -/
def PtP (abc : List Char) (p m d : Nat) (h : PH) : PV → PH → Prop := fun r h' => ∃ t, r = enc t ∧ wf abc t = true ∧ dep t ≤ d + 1 ∧ sz t ≤ szm d ∧ St p (m + cost d) h h'
theorem ct4 {w : Int} (h0 : 0 ≤ w) (h1 : w < 4) {xs : List PV} (l : xs.length = 4) {r : PV} (m : r ∈ cutL xs none (some (4 - w % 2))) : r ∈ xs := by
  unfold cutL at m
  exact List.mem_of_mem_drop (List.mem_of_mem_take m)
theorem ct4_len {w : Int} (h0 : 0 ≤ w) {xs : List PV} (l : xs.length = 4) : 0 < (cutL xs none (some (4 - w % 2))).length ∧ (cutL xs none (some (4 - w % 2))).length ≤ 4 := by
  unfold cutL sIx
  have : ¬ (4 - w % 2 < 0) := by omega
  simp only [if_neg this, List.length_take, List.length_drop, l]
  omega
theorem leaf_W {abc : List Char} {p m d n : Nat} {h : PH} {way : Nat} (ab : Ab abc) (hn : 3 ≤ n) (o : Ok h p m) (hm : m < 2 ^ 39) (hw : way < 4) {v4 v5 : Option PV} :
    W (exs (callN tab n) [.asg (.nm 5) (.lst [.tup [.k (.str ['l', 'e', 't', 't', 'e', 'r']), .call "_law_pick" [.v 0, .v 1]], .tup [.k (.str ['a', 'n', 'y'])], .tup [.k (.str ['e', 'm', 'p', 't', 'y'])], .tup [.k (.str ['n', 'o', 'n', 'e'])]]),
      .ret (.call "_law_pick" [.v 0, .slc (.v 5) none (some (.bop .sub (.k (.int 4)) (.bop .mod (.blt "int" [.v 3]) (.k (.int 2)))))])] [some (.ref p), some (.str abc), some (.int (d : Nat)), some (.int (way : Nat)), v4, v5] h)
      (fun f h' => ∃ t, f = .rt (enc t) ∧ wf abc t = true ∧ dep t = 1 ∧ sz t = 1 ∧ St p (m + 2) h h') no := by
  rw [W_cons]
  simp -implicitDefEqProofs [-W_cons, szl]
  refine (pickS_W (n := n) (by omega) o (by omega) ab.pos (by have := ab.len; omega)).use ?_
  rintro _ h1 ⟨⟨c, mc, rfl⟩, st⟩
  generalize hxs : [PV.tup [PV.str ['l', 'e', 't', 't', 'e', 'r'], PV.str [c]], PV.tup [PV.str ['a', 'n', 'y']], PV.tup [PV.str ['e', 'm', 'p', 't', 'y']], PV.tup [PV.str ['n', 'o', 'n', 'e']]] = xs
  have lx : xs.length = 4 := by rw [← hxs]; rfl
  have es : slcV (.ref h1.length) none (some (4 - (way : Int) % 2)) (h1 ++ [PO.lst xs]) = .ok (.ref (h1 ++ [PO.lst xs]).length) (h1 ++ [PO.lst xs] ++ [.lst (cutL xs none (some (4 - (way : Int) % 2)))]) := by
    simp only [slcV, get_new]
  have em : W (bopV .mod (.int (way : Nat)) (.int 2) (h1 ++ [PO.lst xs])) (fun v g => v = .int ((way : Int) % 2) ∧ g = h1 ++ [PO.lst xs]) no := by
    simp [bopV]
  rw [W_cons, W_ret, W_cal, W_evs1, W_okI (ev_v rfl), W_evs1, W_slc, W_okI (ev_v rfl), W_evo0, W_evo1, W_bop, W_k, W_bop, W_blt, W_evs1, W_okI (ev_v rfl), W_evs0, W_int, W_k]
  refine em.use ?_
  rintro _ _ ⟨rfl, rfl⟩
  rw [W_sub, KOI_int, W_okI es, W_evs0]
  have s2 := (st.app (g := [PO.lst xs])).app (g := [PO.lst (cutL xs none (some (4 - (way : Int) % 2)))])
  have cl := ct4_len (w := (way : Int)) (by omega) lx
  have lt := o.lt
  have l2 := st.len
  refine W.mono (pick_W (n := n) (by omega) s2.1 (by omega) get_new (by simp; omega) cl.1 (by omega)) ?_ (fun _ _ z => z.elim)
  rintro r h2 ⟨mr, s3⟩
  rw [KF_rt]
  have mr := ct4 (w := (way : Int)) (by omega) (by omega) lx mr
  rw [← hxs] at mr
  have s4 := (s2.trans s3)
  have fin : ∀ t : Pt, r = enc t → wf abc t = true → dep t = 1 → sz t = 1 → ∃ t, Fl.rt r = Fl.rt (enc t) ∧ wf abc t = true ∧ dep t = 1 ∧ sz t = 1 ∧ St p (m + 2) h h2 := fun t e w d z => ⟨t, by rw [e], w, d, z, s4.more (by omega)⟩
  simp only [List.mem_cons, List.not_mem_nil, or_false] at mr
  rcases mr with e | e | e | e
  · exact fin (.let_ c) e (by simp [wf, mc]) rfl rfl
  · exact fin .any e rfl rfl rfl
  · exact fin .emp e rfl rfl rfl
  · exact fin .non e rfl rfl rfl
end Mk14
set_option linter.all false
set_option maxRecDepth 10000
namespace Mk14
open Mi Lib
theorem in45 {h : PH} {w : Nat} : inV (.int (w : Nat)) (.tup [.int 4, .int 5]) h = some (decide (w = 4 ∨ w = 5)) := by
  have := in_tup (h := h) (q := w) (A := [4, 5])
  have e : PV.tup (intsV [4, 5]) = .tup [.int 4, .int 5] := rfl
  rw [e] at this
  rw [this]
  simp
theorem lix {h : PH} {xs : List PV} {i : Nat} {y : PV} (e : xs[i]? = some y) : idxV (.ref h.length) (.int (i : Nat)) (h ++ [.lst xs]) = .ok y (h ++ [.lst xs]) := by
  simp only [idxV, get_new, atI_nat e]
  rfl
theorem lixj {h : PH} {xs : List PV} {j : Int} (i : Nat) {y : PV} (e : xs[i]? = some y) (hj : j = (i : Nat)) : idxV (.ref h.length) (.int j) (h ++ [.lst xs]) = .ok y (h ++ [.lst xs]) := by
  rw [hj]
  exact lix e
theorem pat_W {abc : List Char} (ab : Ab abc) : ∀ (d : Nat) {n p m : Nat} {h : PH}, d + 4 ≤ n → Ok h p m → m + cost d < 2 ^ 38 → d ≤ 6 → W (callN tab n (.f "_law_pattern") [.ref p, .str abc, .int ((d + 1 : Nat))] h) (PtP abc p m d h) no := by
  intro d
  induction d with
  | zero =>
    intro n p m h hn o hm hd
    refine W_call (by omega) rfl rfl fun k hk => ?_
    unfold c__law_pattern
    simp only [List.map_cons, List.map_nil, List.cons_append, List.nil_append, List.replicate]
    rw [W_cons]
    simp -implicitDefEqProofs [-W_cons]
    refine (drawN_W (size := 4) (n := k) (by omega) o (by omega) (by omega) (by omega)).use ?_
    rintro _ h1 ⟨w, rfl, hw, st⟩
    rw [W_cons, W_ite, W_cmp, W_okI (ev_v rfl), W_k, W_lt, tru_bl, KO_some]
    have e : decide ((w : Int) < 4) = true := decide_eq_true (by omega)
    rw [e, KI_t]
    refine W.mono (leaf_W (d := 1) (n := k) ab (by omega) st.1 (by omega) hw) ?_ (fun _ _ z => z.elim)
    rintro f h2 ⟨t, rfl, w1, w2, w3, s2⟩
    rw [KF_rt, KE_rt]
    exact ⟨t, rfl, w1, by omega, by simp [w3, szm], (st.trans s2).more (by simp [cost])⟩
  | succ d ih =>
    intro n p m h hn o hm hd
    refine W_call (by omega) rfl rfl fun k hk => ?_
    unfold c__law_pattern
    simp only [List.map_cons, List.map_nil, List.cons_append, List.nil_append, List.replicate]
    have gt : decide (((d + 1 + 1 : Nat) : Int) > 1) = true := decide_eq_true (by omega)
    have gt1 : (1 : Int) < ((d + 1 + 1 : Nat) : Int) := by omega
    rw [W_cons]
    simp -implicitDefEqProofs [-W_cons, -Int.natCast_add, gt1]
    refine (drawN_W (size := 9) (n := k) (by omega) o (by omega) (by omega) (by omega)).use ?_
    rintro _ h1 ⟨w, rfl, hw, st⟩
    have lo := o.lt
    rw [W_cons, W_ite, W_cmp, W_okI (ev_v rfl), W_k, W_lt, tru_bl, KO_some]
    by_cases h4 : w < 4
    · have e : decide ((w : Int) < 4) = true := decide_eq_true (by omega)
      rw [e, KI_t]
      refine W.mono (leaf_W (d := d + 1 + 1) (n := k) ab (by omega) st.1 (by omega) h4) ?_ (fun _ _ z => z.elim)
      rintro f h2 ⟨t, rfl, w1, w2, w3, s2⟩
      rw [KF_rt, KE_rt]
      exact ⟨t, rfl, w1, by omega, by simp [w3, szm], (st.trans s2).more (by simp [cost]; omega)⟩
    have e : decide ((w : Int) < 4) = false := decide_eq_false (by omega)
    rw [e, KI_f, W_nil, KF_nx]
    have sub1 : (((d + 1 + 1 : Nat) : Int)) - 1 = ((d + 1 : Nat) : Int) := by omega
    have call1 : ∀ {m1 : Nat} {g : PH}, Ok g p m1 → m1 + cost d < 2 ^ 38 → W (callN tab k (.f "_law_pattern") [.ref p, .str abc, .int ((((d + 1 + 1 : Nat) : Int)) - 1)] g) (PtP abc p m1 d g) no := fun {m1 g} o1 h1 => by
      rw [sub1]
      exact ih (by omega) o1 h1 (by omega)
    have cst : cost (d + 1) = 3 + 2 * cost d := rfl
    by_cases h5 : w = 4 ∨ w = 5
    · have one : ∀ (kk : List Char) (mk : Pt → Pt) (g : PH), (∀ t, enc (mk t) = .tup [.str kk, enc t]) → (∀ t, wf abc (mk t) = wf abc t) → (∀ t, dep (mk t) = 1 + dep t) → (∀ t, sz (mk t) = 1 + sz t) → St p (m + 1) h g →
          W (callN tab k (.f "_law_pattern") [.ref p, .str abc, .int ((((d + 1 + 1 : Nat) : Int)) - 1)] g) (fun r g' => PtP abc p m (d + 1) h (.tup [.str kk, r]) g') no := by
        intro kk mk g h1 h2 h3 h4 sg
        refine W.mono (call1 sg.1 (by omega)) ?_ (fun _ _ z => z.elim)
        rintro _ g' ⟨t, rfl, w1, w2, w3, s2⟩
        exact ⟨mk t, (h1 t).symm, by rw [h2]; exact w1, by rw [h3]; omega, by rw [h4]; simp [szm]; omega, (sg.trans s2).more (by simp [cost]; omega)⟩
      have i45 : inV (.int (w : Nat)) (.tup [.int 4, .int 5]) h1 = some true := by rw [in45]; simp [h5]
      rw [W_cons]
      simp -implicitDefEqProofs [-W_cons, -Int.natCast_add, i45, szl]
      rw [W_cons]
      simp -implicitDefEqProofs [-W_cons, -Int.natCast_add, szl]
      rcases h5 with rfl | rfl
      · rw [W_okI (lixj (xs := [PV.str ['n', 'o', 't'], PV.str ['s', 't', 'a', 'r']]) (j := ((4 : Nat) : Int) - 4) 0 rfl rfl)]
        exact one kNot .not_ _ (fun _ => rfl) (fun _ => rfl) (fun _ => rfl) (fun _ => rfl) st.app
      · rw [W_okI (lixj (xs := [PV.str ['n', 'o', 't'], PV.str ['s', 't', 'a', 'r']]) (j := ((5 : Nat) : Int) - 4) 1 rfl rfl)]
        exact one kSt .star _ (fun _ => rfl) (fun _ => rfl) (fun _ => rfl) (fun _ => rfl) st.app
    · have two : ∀ (kk : List Char) (mk : Pt → Pt → Pt) (g : PH), (∀ t u, enc (mk t u) = .tup [.str kk, enc t, enc u]) → (∀ t u, wf abc (mk t u) = (wf abc t && wf abc u)) → (∀ t u, dep (mk t u) = 1 + max (dep t) (dep u)) → (∀ t u, sz (mk t u) = 1 + sz t + sz u) → St p (m + 1) h g →
          W (callN tab k (.f "_law_pattern") [.ref p, .str abc, .int ((((d + 1 + 1 : Nat) : Int)) - 1)] g) (fun r g' => W (callN tab k (.f "_law_pattern") [.ref p, .str abc, .int ((((d + 1 + 1 : Nat) : Int)) - 1)] g') (fun r2 g2 => PtP abc p m (d + 1) h (.tup [.str kk, r, r2]) g2) no) no := by
        intro kk mk g h1 h2 h3 h4 sg
        refine W.mono (call1 sg.1 (by omega)) ?_ (fun _ _ z => z.elim)
        rintro _ g' ⟨t, rfl, w1, w2, w3, s2⟩
        refine W.mono (call1 s2.1 (by omega)) ?_ (fun _ _ z => z.elim)
        rintro _ g2 ⟨u, rfl, u1, u2, u3, s3⟩
        exact ⟨mk t u, (h1 t u).symm, by rw [h2, w1, u1]; rfl, by rw [h3]; omega, by rw [h4]; simp [szm]; omega, ((sg.trans s2).trans s3).more (by simp [cost]; omega)⟩
      have hw6 : w = 6 ∨ w = 7 ∨ w = 8 := by omega
      have i6 : inV (.int (w : Nat)) (.tup [.int 4, .int 5]) h1 = some false := by rw [in45]; simp [h5]
      rw [W_cons]
      simp -implicitDefEqProofs [-W_cons, -Int.natCast_add, i6, szl]
      rw [W_cons]
      simp -implicitDefEqProofs [-W_cons, -Int.natCast_add, szl]
      rcases hw6 with rfl | rfl | rfl
      · rw [W_okI (lixj (xs := [PV.str ['j', 'o', 'i', 'n'], PV.str ['o', 'r'], PV.str ['a', 'n', 'd']]) (j := ((6 : Nat) : Int) - 6) 0 rfl rfl), W_cons]
        simp -implicitDefEqProofs [-W_cons, -Int.natCast_add, szl]
        exact two kJ .join _ (fun _ _ => rfl) (fun _ _ => rfl) (fun _ _ => rfl) (fun _ _ => rfl) st.app
      · rw [W_okI (lixj (xs := [PV.str ['j', 'o', 'i', 'n'], PV.str ['o', 'r'], PV.str ['a', 'n', 'd']]) (j := ((7 : Nat) : Int) - 6) 1 rfl rfl), W_cons]
        simp -implicitDefEqProofs [-W_cons, -Int.natCast_add, szl]
        exact two kO .or_ _ (fun _ _ => rfl) (fun _ _ => rfl) (fun _ _ => rfl) (fun _ _ => rfl) st.app
      · rw [W_okI (lixj (xs := [PV.str ['j', 'o', 'i', 'n'], PV.str ['o', 'r'], PV.str ['a', 'n', 'd']]) (j := ((8 : Nat) : Int) - 6) 2 rfl rfl), W_cons]
        simp -implicitDefEqProofs [-W_cons, -Int.natCast_add, szl]
        exact two kAn .and_ _ (fun _ _ => rfl) (fun _ _ => rfl) (fun _ _ => rfl) (fun _ _ => rfl) st.app
end Mk14
set_option linter.all false
set_option maxRecDepth 10000
namespace Mk14
open Mi Lib
theorem add_refs {h : PH} {a b : Nat} {xs ys : List PV} (ea : h[a]? = some (.lst xs)) (eb : h[b]? = some (.lst ys)) (l : xs.length + ys.length ≤ szl) : bopV .add (.ref a) (.ref b) h = .ok (.ref h.length) (h ++ [.lst (xs ++ ys)]) := by
  simp [bopV, ea, eb, l]
def TxA (abc : List Char) (N : Nat) (ts : List (List Char)) : Prop := ∀ w ∈ ts, wrd abc w ∧ w.length ≤ N
/-- the longer texts of one text -/
theorem ext_W {cl : Cl} {abc w : List Char} {ρ : Mi.Env} {h : PH} {Q : PV → PH → Prop} {X : EQ} (l : abc.length ≤ 3) (lw : w.length ≤ 100) (r0 : ρ[0]? = some (some (.str abc))) (r6 : ρ[6]? = some (some (.str w))) (lr : 7 < ρ.length)
    (q : Q (.ref h.length) (h ++ [.lst ((abc.map fun c => w ++ [c]).map .str)])) : W (ev cl (.lc (.bop .add (.v 6) (.v 7)) (.nm 7) .val [.v 0] [] [7]) ρ h) Q X := by
  rw [W_lc, W_evs1, W_okI (ev_v r0), W_evs0, its_str (by simp only [szl]; omega)]
  refine KLC_of (by rw [List.length_map]; simp only [szl]; omega) ?_
  refine W_map0 (fun x => match x with
    | .str u => .str (w ++ u)
    | _ => .non) rfl (fun x hx => ?_) ?_
  · obtain ⟨c, _, rfl⟩ := List.mem_map.mp hx
    have e6 : ((wipeE ρ [7]).set 7 (some (PV.str [c])))[6]? = some (some (.str w)) := by
      rw [List.getElem?_set_ne (by decide)]
      simp only [wipeE]
      rw [List.getElem?_set_ne (by decide)]
      exact r6
    have e7 : ((wipeE ρ [7]).set 7 (some (PV.str [c])))[7]? = some (some (.str [c])) := by
      rw [List.getElem?_set_self (by simp [wipeE, lr])]
    rw [W_bop, W_okI (ev_v e6), W_okI (ev_v e7)]
    have : w.length + 1 ≤ szl := by simp only [szl]; omega
    simp [bopV, this]
  · have e : (abc.map fun c => PV.str [c]).map (fun x => match x with
      | .str u => PV.str (w ++ u)
      | _ => .non) = (abc.map fun c => w ++ [c]).map .str := by
      rw [List.map_map, List.map_map]
      rfl
    rw [e]
    exact q
theorem texts_W {abc : List Char} {n N : Nat} {h : PH} (l : abc.length ≤ 3) (hN : N ≤ 5) (hn : 1 ≤ n) : W (callN tab n (.f "_law_texts") [.str abc, .int (N : Nat)] h) (fun r h' => ∃ a ts, r = .ref a ∧ h'[a]? = some (.lst (ts.map .str)) ∧ TxA abc N ts ∧ PF h h') no := by
  refine W_call (by omega) rfl rfl fun k hk => ?_
  unfold c__law_texts
  simp only [List.map_cons, List.map_nil, List.cons_append, List.nil_append, List.replicate]
  rw [W_cons]
  simp -implicitDefEqProofs [-W_cons, szl, -List.append_assoc]
  rw [W_cons, W_for, W_evs1, W_okI (ev_v rfl), W_evs0, its_rngN (by omega)]
  have pow5 : ∀ j, j ≤ 5 → 3 ^ j ≤ 243 := by decide
  refine KL_of (W_forL (fun r ρ g => ∃ j a3 a4 t3 t4 v2 v5 v6 v7, r = ((List.range N).drop j).map (fun i => PV.int (0 + (i : Nat))) ∧ j ≤ N ∧ ρ = [some (.str abc), some (.int (N : Nat)), v2, some (.ref a3), some (.ref a4), v5, v6, v7] ∧ PF h g ∧ g[a3]? = some (.lst (t3.map .str)) ∧ g[a4]? = some (.lst (t4.map .str)) ∧
      TxA abc N t3 ∧ TxA abc j t4 ∧ t4.length ≤ 3 ^ j ∧ t3.length ≤ 2 * 3 ^ j) ?_ ?_ _ _ _ ⟨0, h.length, h.length + 1, [[]], [[]], none, none, none, none, rfl, Nat.zero_le _, rfl, PF.app.trans PF.app, by simp, by simp, fun w hw => by simp at hw; subst hw; exact ⟨fun c hc => (nomatch hc), Nat.zero_le _⟩, fun w hw => by simp at hw; subst hw; exact ⟨fun c hc => (nomatch hc), Nat.zero_le _⟩, by simp, by simp⟩)
  · rintro x r ρ g ⟨j, a3, a4, t3, t4, v2, v5, v6, v7, er, hj, rfl, pg, e3, e4, x3, x4, l4, l3⟩
    refine ⟨rfl, ?_⟩
    by_cases hlt : j < N
    · rw [List.drop_eq_getElem_cons (by rw [List.length_range]; exact hlt)] at er
      simp only [List.getElem_range, List.map_cons, List.cons.injEq] at er
      obtain ⟨rfl, rfl⟩ := er
      have p5 := pow5 j (by omega)
      have p5' : 3 ^ (j + 1) = 3 * 3 ^ j := by rw [Nat.pow_succ]; omega
      rw [W_step]
      simp only [List.set_cons_succ, List.set_cons_zero]
      rw [W_cons]
      simp -implicitDefEqProofs [-W_cons, szl, -List.append_assoc]
      have e3' := get_app (g := [PO.lst []]) e3
      have e4' := get_app (g := [PO.lst []]) e4
      have pg' := pg.trans (PF.app (g := [PO.lst []]))
      have e5 : (g ++ [PO.lst []])[g.length]? = some (.lst []) := get_new
      generalize g ++ [PO.lst []] = g1 at *
      rw [W_cons, W_for, W_evs1, W_okI (ev_v rfl), W_evs0, its_lst e4']
      refine KL_of (W_forL (fun r ρ g => ∃ pre post a5 t5 v6 v7, t4 = pre ++ post ∧ r = post.map .str ∧ ρ = [some (.str abc), some (.int (N : Nat)), some (.int (j : Nat)), some (.ref a3), some (.ref a4), some (.ref a5), v6, v7] ∧ PF g1 g ∧ g[a5]? = some (.lst (t5.map .str)) ∧ TxA abc (j + 1) t5 ∧ t5.length ≤ 3 * pre.length) ?_ ?_ _ _ _ ⟨[], t4, g.length, [], v6, v7, rfl, rfl, rfl, PF.refl, e5, fun w hw => (nomatch hw), by simp⟩)
      · rintro y r ρ g2 ⟨pre, post, a5, t5, v6', v7', e4x, er, rfl, pg2, e52, x5, l5⟩
        refine ⟨okG_one (pg2 _ _ e4'), ?_⟩
        cases post with
        | nil => simp at er
        | cons w post =>
          simp only [List.map_cons, List.cons.injEq] at er
          obtain ⟨rfl, rfl⟩ := er
          have hw := x4 w (by rw [e4x]; simp)
          have lp : pre.length + 1 ≤ 3 ^ j := by
            have := congrArg List.length e4x
            simp at this
            omega
          rw [W_step]
          simp only [List.set_cons_succ, List.set_cons_zero]
          rw [W_cons, W_nm, W_bop, W_okI (ev_v rfl)]
          refine ext_W l (by omega) rfl rfl (by simp) ?_
          have e53 := get_app (g := [PO.lst ((abc.map fun c => w ++ [c]).map .str)]) e52
          rw [W_okI (add_refs e53 get_new (by simp; simp only [szl]; omega)), KF_nx, W_nil, KR_nx]
          simp only [List.set_cons_succ, List.set_cons_zero]
          refine ⟨pre ++ [w], post, _, t5 ++ abc.map fun c => w ++ [c], _, _, by rw [e4x]; simp, rfl, rfl, (pg2.trans PF.app).trans PF.app, by rw [List.map_append]; exact get_new, fun u hu => ?_, by simp; omega⟩
          rcases List.mem_append.mp hu with hu | hu
          · exact x5 u hu
          · obtain ⟨c, hc, rfl⟩ := List.mem_map.mp hu
            refine ⟨fun d hd => ?_, by simp; omega⟩
            rcases List.mem_append.mp hd with hd | hd
            · exact hw.1 d hd
            · have : d = c := by simpa using hd
              rw [this]; exact hc
      · rintro ρ g2 ⟨pre, post, a5, t5, v6', v7', e4x, er, rfl, pg2, e52, x5, l5⟩
        have e0 : post = [] := by simpa using er.symm
        subst e0
        rw [List.append_nil] at e4x
        subst e4x
        refine ⟨okG_one (pg2 _ _ e4'), ?_⟩
        rw [KF_nx, W_cons, W_nm, W_okI (ev_v rfl), KF_nx]
        simp only [List.set_cons_succ, List.set_cons_zero]
        rw [W_cons, W_nm, W_bop, W_okI (ev_v rfl), W_okI (ev_v rfl), W_okI (add_refs (pg2 _ _ e3') e52 (by simp; simp only [szl]; omega)), KF_nx, W_nil, KR_nx]
        simp only [List.set_cons_succ, List.set_cons_zero]
        refine ⟨j + 1, rfl, hlt, _, a5, ⟨_, _, _, _, rfl⟩, (pg'.trans pg2).trans PF.app, t3 ++ t5, by rw [List.map_append]; exact get_new, t5, get_app e52, fun u hu => ?_, x5, by omega, by simp; omega⟩
        rcases List.mem_append.mp hu with hu | hu
        · exact x3 u hu
        · exact ⟨(x5 u hu).1, by have := (x5 u hu).2; omega⟩
    · rw [List.drop_eq_nil_of_le (by rw [List.length_range]; omega)] at er
      cases er
  · rintro ρ g ⟨j, a3, a4, t3, t4, v2, v5, v6, v7, er, hj, rfl, pg, e3, e4, x3, x4, l4, l3⟩
    refine ⟨rfl, ?_⟩
    rw [KF_nx, W_cons, W_ret, W_okI (ev_v rfl), KF_rt, KE_rt]
    exact ⟨a3, rfl, t3, e3, x3, pg⟩
end Mk14
set_option linter.all false
set_option maxRecDepth 10000
namespace Mk14
open Mi Lib
theorem kp_pf {h g : PH} (k : Kp h.length h g) : PF h g := fun i o e => k i o e (by have := (List.getElem?_eq_some_iff.mp e).1; omega)
theorem enumL_memI {x : PV} : ∀ {cs : List Int} {lo : Nat}, x ∈ enumL lo (cs.map .int) → ∃ (t : Nat) (c : Int), x = .tup [.int (t : Nat), .int c] ∧ t < lo + cs.length
  | [], _, m => by simp [enumL] at m
  | c :: r, lo, m => by
    simp only [List.map_cons, enumL, List.mem_cons] at m
    rcases m with rfl | m
    · exact ⟨lo, c, rfl, by simp⟩
    · obtain ⟨t, z, e, h1⟩ := enumL_memI m
      exact ⟨t, z, e, by simp only [List.length_cons]; omega⟩
theorem cut_takeI {ns : List Int} {N : Nat} : cutL (ns.map PV.int) none (some (N : Nat)) = (ns.take N).map .int := by
  unfold cutL
  simp only [sIx, List.drop_zero, Nat.sub_zero]
  rw [if_neg (by omega), Int.toNat_natCast, List.map_take, List.length_map]
  rcases Nat.le_total N ns.length with l | l
  · rw [Nat.min_eq_left l]
  · rw [Nat.min_eq_right l, List.take_of_length_le (by simp), List.take_of_length_le (by simpa using l)]
/-- for turn, cell in enumerate((script or [5])[:N]): .., then the rest -/
theorem law_frame {t : FN → Option Fn} {n i j N nl : Nat} {cellB lastB : List S} (hn : 1 ≤ n) (hN : 0 < N) (hN2 : N ≤ 60) (hd : t (.f "law") = some ⟨1, nl, .for_ (.tup [.nm i, .nm j]) .enumv [.slc (.or (.v 0) (.lst [.k (.int 5)])) none (some (.k (.int (N : Nat))))] cellB :: lastB⟩)
    (cell : ∀ k, k + 1 = n → ∀ (ρ : Mi.Env) (h : PH) (turn : Nat) (c : Int), ρ.length = nl + 1 → turn < N → W (exs (callN t k) cellB ((ρ.set i (some (.int (turn : Nat)))).set j (some (.int c))) h) (fun fl h2 => ∃ ρ' : Mi.Env, fl = .nx ρ' ∧ ρ'.length = nl + 1 ∧ PF h h2) no)
    (last : ∀ k, k + 1 = n → ∀ (ρ : Mi.Env) (h : PH), ρ.length = nl + 1 → W (exs (callN t k) lastB ρ h) (KE (fun r _ => r = .bl true) no) no) (ns : List Int) :
    ∃ h', callN t n (.f "law") [.ref 0] [.frz (ns.map .int)] = .ok (.bl true) h' := by
  have main : W (callN t n (.f "law") [.ref 0] [.frz (ns.map .int)]) (fun r _ => r = .bl true) no := by
    refine W_call hn hd rfl fun k hk => ?_
    have loop : ∀ (q : Nat) (cs : List Int) (ρ : Mi.Env) (h : PH), h[q]? = some (.lst (cs.map .int)) → cs.length ≤ N → ρ.length = nl + 1 → W (forL [(q, .lst (cs.map .int))] (forStep (callN t k) (.tup [.nm i, .nm j]) cellB) (enumL 0 (cs.map .int)) ρ h) (KF (callN t k) lastB (KE (fun r _ => r = .bl true) no) no) no := by
      intro q cs ρ h hq hl hr
      refine W_forL (fun l ρ h1 => (∀ y ∈ l, y ∈ enumL 0 (cs.map .int)) ∧ h1[q]? = some (.lst (cs.map .int)) ∧ ρ.length = nl + 1) ?_ ?_ _ _ h ⟨fun _ z => z, hq, hr⟩
      · rintro x l ρ h1 ⟨ml, hq1, hr⟩
        refine ⟨okG_one hq1, ?_⟩
        obtain ⟨turn, c, rfl, ht⟩ := enumL_memI (ml x (by simp))
        rw [W_step2]
        simp only [bindT_tup, bindTs_cons, bindTs_nil, KO_some]
        refine (cell k hk ρ h1 turn c hr (by omega)).mono ?_ fun _ _ z => z
        rintro _ h2 ⟨ρ', rfl, hr', p⟩
        exact ⟨fun y hy => ml y (by simp [hy]), p _ _ hq1, hr'⟩
      · rintro ρ h1 ⟨ml, hq1, hr⟩
        refine ⟨okG_one hq1, ?_⟩
        rw [KF_nx]
        exact last k hk ρ h1 hr
    show W (exs (callN t k) (.for_ (.tup [.nm i, .nm j]) .enumv [.slc (.or (.v 0) (.lst [.k (.int 5)])) none (some (.k (.int (N : Nat))))] cellB :: lastB) (some (.ref 0) :: List.replicate nl none) [.frz (ns.map .int)]) _ _
    rw [W_cons, W_for]
    have fin : ∀ (x : Nat) (xs : List Int) (g : PH), (g[x]? = some (.lst (xs.map .int)) ∨ g[x]? = some (.frz (xs.map .int))) → KL (callN t k) (.tup [.nm i, .nm j]) cellB (some (.ref 0) :: List.replicate nl none) (g ++ [.lst ((xs.take N).map .int)]) (KF (callN t k) lastB (KE (fun r _ => r = .bl true) no) no) no (itsOf .enumv [.ref g.length] (g ++ [.lst ((xs.take N).map .int)])) := by
      intro x xs g _
      rw [show itsOf .enumv [.ref g.length] (g ++ [PO.lst ((xs.take N).map PV.int)]) = some ⟨enumL 0 ((xs.take N).map .int), [(g.length, .lst ((xs.take N).map .int))]⟩ by simp only [itsOf, ofSq, ofLst, get_new, Option.map_some]]
      exact KL_of (loop _ _ _ _ get_new (by simp; omega) (by simp))
    simp -implicitDefEqProofs only [W_evs1, W_evs0, W_slc, W_or, W_v, W_lst, W_k, W_evo0, W_evo1, KOI_int, List.getElem?_cons_zero, Option.bind_some, id, KO_some]
    cases ns with
    | nil =>
      rw [show tru (.ref 0) [PO.frz (([] : List Int).map PV.int)] = some false from rfl]
      simp -implicitDefEqProofs only [KO_some, Bool.not_false, KA_t, W_lst, W_evs1, W_evs0, W_k]
      refine ⟨by simp [szl], ?_⟩
      have e : ([PO.frz (([] : List Int).map PV.int)] ++ [PO.lst [PV.int 5]])[([PO.frz (([] : List Int).map PV.int)] : PH).length]? = some (.lst (([5] : List Int).map .int)) := rfl
      rw [W_ls e, cut_takeI]
      exact fin _ [5] _ (.inl e)
    | cons c r =>
      rw [show tru (.ref 0) [PO.frz ((c :: r).map PV.int)] = some true from rfl]
      simp -implicitDefEqProofs only [KO_some, Bool.not_true, KA_f]
      have e : ([PO.frz ((c :: r).map PV.int)] : PH)[0]? = some (.frz ((c :: r).map .int)) := rfl
      have es : slcV (.ref 0) none (some (N : Nat)) [PO.frz ((c :: r).map PV.int)] = .ok (.ref 1) ([PO.frz ((c :: r).map PV.int)] ++ [.lst (((c :: r).take N).map .int)]) := by
        rw [← cut_takeI]
        rfl
      rw [es, W_ok]
      exact fin 0 (c :: r) _ (.inr e)
  obtain ⟨a, h', e, rfl⟩ := main.get
  exact ⟨h', e⟩
def textB : S := .for_ (.nm 9) .val [.call "_law_texts" [.v 4, .ite (.cmp .eq (.blt "len" [.v 4]) (.k (.int 3))) (.k (.int 4)) (.k (.int 5))]] [.ite (.cmp .ne (.blt "repr" [.call "matches" [.v 4, .v 8, .v 9]]) (.blt "repr" [.call "_law_matches" [.v 8, .v 9]])) [.ret (.k (.bl false))] []]
def turnB : List S := [.asg (.nm 8) (.call "_law_pattern" [.v 3, .v 4, .bop .add (.k (.int 1)) (.call "_law_draw" [.v 3, .k (.int 5)])]), textB]
def oddL1 : E := .lst [.k .non, .k (.int 5), .k (.str []), .k (.str ['a']), .tup [], .tup [.k (.str ['s', 't', 'a', 'r'])], .lst [.k (.str ['a', 'n', 'y'])], .tup [.k (.str ['l', 'e', 't', 't', 'e', 'r']), .k (.str ['x'])], .tup [.k (.str ['l', 'e', 't', 't', 'e', 'r']), .k (.str [])], .dct [] [], .tup [.k (.str ['a', 'n', 'y']), .k (.int 1)]]
def oddL2 : E := .lst [.k .non, .k (.int 5), .k (.str ['x']), .bop .add (.v 4) (.k (.str ['A'])), .lst [.k (.str ['a'])], .tup [.k (.str ['a'])], .k (.bl true), .bop .add (.v 4) (.k (.str [' ']))]
def if1 : S := .ite (.cmp .ne (.lam "_law_word" (.call "matches" [.v 4, .v 7, .k .non])) (.k (.str ['p', 'a', 't', 't', 'e', 'r', 'n']))) [.ret (.k (.bl false))] []
def if2 : S := .ite (.cmp .ne (.lam "_law_word" (.callk "matches" [2, 1, 0] [.v 7, .v 8, .v 4])) (.k (.str ['t', 'e', 'x', 't']))) [.ret (.k (.bl false))] []
def cellB : List S := [.asg (.nm 3) (.call "_law_begin" [.v 2, .v 1]),
  .asg (.nm 4) (.call "_law_pick" [.v 3, .lst [.k (.str ['a']), .k (.str ['c']), .k (.str ['a', 'b']), .k (.str ['b', 'd']), .k (.str ['a', 'b', 'c']), .k (.str ['a', 'c', 'd'])]]),
  .for_ (.nm 5) .rng [.k (.int 3)] turnB,
  .asg (.nm 6) oddL1,
  .asg (.nm 7) (.call "_law_pick" [.v 3, .v 6]),
  if1,
  .asg (.nm 7) (.call "_law_pick" [.v 3, oddL2]),
  if2]
theorem law_body : c_law = ⟨1, 9, [.for_ (.tup [.nm 1, .nm 2]) .enumv [.slc (.or (.v 0) (.lst [.k (.int 5)])) none (some (.k (.int ((5 : Nat)))))] cellB, .ret (.k (.bl true))]⟩ := rfl
section
variable {k : Nat} {v0 v1 v2 v5 v6 v7 v8 v9 : Option PV} {s : List Char} {h g : PH} {p m : Nat}
/-- all texts are asked -/
theorem text_W {t : Pt} (hk : 40 ≤ k) (ab : Ab s) (w : wf s t = true) (d : dep t ≤ 7) (z : sz t ≤ 60) {Q : Fl → PH → Prop} (q : ∀ g z9, PF h g → Q (.nx [v0, v1, v2, some (.ref p), some (.str s), v5, v6, v7, some (enc t), z9]) g) :
    W (ex (callN tab k) textB [v0, v1, v2, some (.ref p), some (.str s), v5, v6, v7, some (enc t), v9] h) Q no := by
  have ls := ab.len
  have lz : s.length ≤ szl := by simp only [szl]; omega
  have tw : ∀ N : Nat, N ≤ 5 → W (callN tab k (.f "_law_texts") [.str s, .int (N : Nat)] h) (fun r h' => ∃ a ts, r = .ref a ∧ h'[a]? = some (.lst (ts.map .str)) ∧ TxA s 5 ts ∧ PF h h') no := fun N hN => by
    refine W.mono (texts_W (n := k) ls hN (by omega)) ?_ (fun _ _ z => z.elim)
    rintro r h' ⟨a, ts, e, e2, x, pf⟩
    exact ⟨a, ts, e, e2, fun w hw => ⟨(x w hw).1, by have := (x w hw).2; omega⟩, pf⟩
  have tw' : W (evs (callN tab k) [.call "_law_texts" [.v 4, .ite (.cmp .eq (.blt "len" [.v 4]) (.k (.int 3))) (.k (.int 4)) (.k (.int 5))]] [v0, v1, v2, some (.ref p), some (.str s), v5, v6, v7, some (enc t), v9] h) (fun vs h' => ∃ a ts, vs = [.ref a] ∧ h'[a]? = some (.lst (ts.map .str)) ∧ TxA s 5 ts ∧ PF h h') no := by
    rw [W_evs1, W_cal, W_evs1, W_okI (ev_v rfl), W_evs1, W_eite, W_cmp, W_blt, W_evs1, W_okI (ev_v rfl), W_evs0, W_len, len_str lz, KO_some, W_k, W_eq, eqI, KO_some, tru_bl, KO_some]
    by_cases h3 : s.length = 3
    · rw [show decide ((s.length : Int) = 3) = true from decide_eq_true (by omega), KJ_t, W_k, W_evs0]
      refine W.mono (tw 4 (by omega)) ?_ (fun _ _ z => z.elim)
      rintro r h' ⟨a, ts, rfl, e2, x, pf⟩
      rw [W_evs0]
      exact ⟨a, ts, rfl, e2, x, pf⟩
    · rw [show decide ((s.length : Int) = 3) = false from decide_eq_false (by omega), KJ_f, W_k, W_evs0]
      refine W.mono (tw 5 (by omega)) ?_ (fun _ _ z => z.elim)
      rintro r h' ⟨a, ts, rfl, e2, x, pf⟩
      rw [W_evs0]
      exact ⟨a, ts, rfl, e2, x, pf⟩
  rw [textB, W_for]
  refine W.mono tw' ?_ (fun _ _ z => z.elim)
  rintro _ g1 ⟨a, ts, rfl, ea, tx, pf⟩
  rw [its_lst ea]
  refine KL_of (W_forL (fun r ρ g => ∃ pre post z9, ts = pre ++ post ∧ r = post.map .str ∧ PF g1 g ∧ ρ = [v0, v1, v2, some (.ref p), some (.str s), v5, v6, v7, some (enc t), z9]) ?_ ?_ _ _ _ ⟨[], ts, v9, rfl, rfl, PF.refl, rfl⟩)
  · rintro x r ρ g ⟨pre, post, z9, et, er, pg, rfl⟩
    refine ⟨okG_one (pg _ _ ea), ?_⟩
    cases post with
    | nil => simp at er
    | cons u post =>
      simp only [List.map_cons, List.cons.injEq] at er
      obtain ⟨rfl, rfl⟩ := er
      have hu := tx u (by rw [et]; simp)
      rw [W_step]
      simp only [List.set_cons_succ, List.set_cons_zero]
      rw [W_cons, W_ite, W_cmp, W_blt, W_evs1, W_cal, W_evs1, W_okI (ev_v rfl), W_evs1, W_okI (ev_v rfl), W_evs1, W_okI (ev_v rfl), W_evs0]
      refine W.mono (matches_W (n := k) (by omega) ab.al w d z hu.1 hu.2 (by omega)) ?_ (fun _ _ z => z.elim)
      rintro _ g2 ⟨rfl, p2⟩
      rw [W_evs0]
      rw [W_reprb, W_blt, W_evs1, W_cal, W_evs1, W_okI (ev_v rfl), W_evs1, W_okI (ev_v rfl), W_evs0]
      refine W.mono (lm_W t (w := u) (by omega) k g2 (by omega)) ?_ (fun _ _ z => z.elim)
      rintro _ g3 ⟨rfl, rfl⟩
      rw [W_evs0, W_reprb, W_ne, eqS, KO_some, tru_bl, KO_some]
      simp only [decide_true, Bool.not_true, KI_f, W_nil, KF_nx, KR_nx]
      exact ⟨pre ++ [u], post, _, by rw [et]; simp, rfl, pg.trans p2, rfl⟩
  · rintro ρ g ⟨pre, post, z9, et, er, pg, rfl⟩
    exact ⟨okG_one (pg _ _ ea), q _ _ (pf.trans pg)⟩
/-- one pattern -/
theorem turn_W (hk : 40 ≤ k) (ab : Ab s) (o : Ok h p m) (hm : m < 100000) {Q : Fl → PH → Prop} (q : ∀ g z9 t, wf s t = true → dep t ≤ 7 → sz t ≤ 60 → St p (m + 1000) h g → Q (.nx [v0, v1, v2, some (.ref p), some (.str s), v5, v6, v7, some (enc t), z9]) g) :
    W (exs (callN tab k) turnB [v0, v1, v2, some (.ref p), some (.str s), v5, v6, v7, v8, v9] h) Q no := by
  rw [turnB, W_cons, W_nm, W_cal, W_evs1, W_okI (ev_v rfl), W_evs1, W_okI (ev_v rfl), W_evs1, W_bop, W_k, W_cal, W_evs1, W_okI (ev_v rfl), W_evs1, W_k, W_evs0, show (5 : Int) = ((5 : Nat) : Int) from rfl]
  refine (drawN_W (size := 5) (n := k) (by omega) o (by omega) (by omega) (by omega)).use ?_
  rintro _ h1 ⟨i, rfl, hi, st⟩
  have e1 : (1 : Int) + (i : Nat) = ((i + 1 : Nat) : Int) := by omega
  rw [W_add, e1, W_evs0]
  have ci : cost i ≤ 189 := by
    have : ∀ i, i < 5 → cost i ≤ 189 := by decide
    exact this i hi
  have si : szm i ≤ 31 := by
    have : ∀ i, i < 5 → szm i ≤ 31 := by decide
    exact this i hi
  refine W.mono (pat_W ab i (n := k) (by omega) st.1 (by omega) (by omega)) ?_ (fun _ _ z => z.elim)
  rintro _ h2 ⟨t, rfl, w1, w2, w3, s2⟩
  simp only [List.set_cons_succ, List.set_cons_zero]
  rw [KF_nx, W_cons]
  refine text_W hk ab w1 (by omega) (by omega) fun g z9 pg => ?_
  rw [KF_nx, W_nil]
  exact q g z9 t w1 (by omega) (by omega) (((st.trans s2).pf pg).more (by omega))
/-- a value that is no pattern -/
theorem if1_W {v : PV} (hk : 40 ≤ k) (ab : Ab s) (f : Fine h v) (nb : nodeB s v = false) {Q : Fl → PH → Prop} (q : ∀ g, PF h g → Q (.nx [v0, v1, v2, some (.ref p), some (.str s), v5, v6, some v, v8, v9]) g) :
    W (ex (callN tab k) if1 [v0, v1, v2, some (.ref p), some (.str s), v5, v6, some v, v8, v9] h) Q no := by
  rw [if1, W_ite, W_cmp]
  refine W.mono (lam_W (k := k) (c := "BadPattern") (word := ['p', 'a', 't', 't', 'e', 'r', 'n']) (by omega) (by simp [words]) ?_) ?_ (fun _ _ z => z.elim)
  · rw [W_cal, W_evs1, W_okI (ev_v rfl), W_evs1, W_okI (ev_v rfl), W_evs1, W_k, W_evs0]
    have := ab.len
    exact matches_bad (by omega) ab.al (f.mono Lks.app) nb (by omega)
  · rintro _ g ⟨rfl, pg⟩
    rw [W_k, W_ne, eqS, KO_some, tru_bl, KO_some]
    simp only [decide_true, Bool.not_true, KI_f, W_nil]
    exact q g pg
theorem if2_W {v : PV} {t : Pt} {ty : String} (hk : 40 ≤ k) (ab : Ab s) (w : wf s t = true) (d : dep t ≤ 7) (z : sz t ≤ 60) (et : tyN v h = some ty) (od : Odd v ty) (tb : txtB s v = false) {Q : Fl → PH → Prop} (q : ∀ g, PF h g → Q (.nx [v0, v1, v2, some (.ref p), some (.str s), v5, v6, some v, some (enc t), v9]) g) :
    W (ex (callN tab k) if2 [v0, v1, v2, some (.ref p), some (.str s), v5, v6, some v, some (enc t), v9] h) Q no := by
  rw [if2, W_ite, W_cmp]
  refine W.mono (lam_W (k := k) (c := "BadText") (word := ['t', 'e', 'x', 't']) (by omega) (by simp [words]) ?_) ?_ (fun _ _ z => z.elim)
  · rw [W_callk, W_evs1, W_okI (ev_v rfl), W_evs1, W_okI (ev_v rfl), W_evs1, W_okI (ev_v rfl), W_evs0, show permV [2, 1, 0] [v, enc t, .str s] = some [.str s, enc t, v] from rfl, KO_some]
    have := ab.len
    exact matches_odd (by omega) ab.al w d z (ty_pf et PF.app) od tb (by omega)
  · rintro _ g ⟨rfl, pg⟩
    rw [W_k, W_ne, eqS, KO_some, tru_bl, KO_some]
    simp only [decide_true, Bool.not_true, KI_f, W_nil]
    exact q g pg
end
end Mk14
set_option linter.all false
set_option maxRecDepth 10000
namespace Mk14
open Mi Lib
theorem len10 {ρ : Mi.Env} (l : ρ.length = 9 + 1) : ∃ a b c d e f g h i j, ρ = [a, b, c, d, e, f, g, h, i, j] := by
  match ρ, l with
  | [a, b, c, d, e, f, g, h, i, j], _ => exact ⟨a, b, c, d, e, f, g, h, i, j, rfl⟩
section
variable {k : Nat} {v0 v3 v4 v5 v6 v7 v8 v9 : Option PV}
def xsA : List PV := [.str ['a'], .str ['c'], .str ['a', 'b'], .str ['b', 'd'], .str ['a', 'b', 'c'], .str ['a', 'c', 'd']]
def xs1 (a b : Nat) : List PV := [PV.non, .int 5, .str [], .str ['a'], .tup [], .tup [.str ['s', 't', 'a', 'r']], .ref a, .tup [.str ['l', 'e', 't', 't', 'e', 'r'], .str ['x']], .tup [.str ['l', 'e', 't', 't', 'e', 'r'], .str []], .ref b, .tup [.str ['a', 'n', 'y'], .int 1]]
def xs2 (s : List Char) (a : Nat) : List PV := [PV.non, .int 5, .str ['x'], .str (s ++ ['A']), .ref a, .tup [.str ['a']], .bl true, .str (s ++ [' '])]
theorem odd1_W {cl : Cl} {ρ : Mi.Env} {h : PH} {Q : PV → PH → Prop} {X : EQ} (q : Q (.ref (h.length + 2)) (h ++ [.lst [.str ['a', 'n', 'y']]] ++ [.dic []] ++ [.lst (xs1 h.length (h.length + 1))])) : W (ev cl oddL1 ρ h) Q X := by
  unfold oddL1
  simp -implicitDefEqProofs [szl, -List.append_assoc]
  exact q
theorem odd2_W {cl : Cl} {ρ : Mi.Env} {s : List Char} {h : PH} {Q : PV → PH → Prop} {X : EQ} (ls : s.length ≤ 3) (r4 : ρ[4]? = some (some (.str s))) (q : Q (.ref (h.length + 1)) (h ++ [.lst [.str ['a']]] ++ [.lst (xs2 s h.length)])) : W (ev cl oddL2 ρ h) Q X := by
  have lz : s.length + 1 ≤ szl := by simp only [szl]; omega
  unfold oddL2
  have l16 : s.length ≤ 16777215 := by omega
  simp -implicitDefEqProofs [szl, -List.append_assoc, r4, bopV, l16]
  exact q
theorem cell_W {h : PH} {turn : Nat} {c : Int} (hk : 45 ≤ k) (ht : turn < 5) :
    W (exs (callN tab k) cellB [v0, some (.int (turn : Nat)), some (.int c), v3, v4, v5, v6, v7, v8, v9] h) (fun fl h2 => ∃ ρ' : Mi.Env, fl = .nx ρ' ∧ ρ'.length = 9 + 1 ∧ PF h h2) no := by
  rw [cellB, W_cons, W_nm, W_cal, W_evs1, W_okI (ev_v rfl), W_evs1, W_okI (ev_v rfl), W_evs0]
  refine (begin_W (n := k) (by omega) (by omega)).use ?_
  rintro _ h1 ⟨rfl, s1⟩
  simp only [List.set_cons_succ, List.set_cons_zero]
  rw [KF_nx, W_cons, W_nm, W_cal, W_evs1, W_okI (ev_v rfl), W_evs1]
  have eA : W (ev (callN tab k) (.lst [.k (.str ['a']), .k (.str ['c']), .k (.str ['a', 'b']), .k (.str ['b', 'd']), .k (.str ['a', 'b', 'c']), .k (.str ['a', 'c', 'd'])]) [v0, some (.int (turn : Nat)), some (.int c), some (.ref h.length), v4, v5, v6, v7, v8, v9] h1) (fun r g => r = .ref h1.length ∧ g = h1 ++ [.lst xsA]) no := by
    simp [szl, xsA]
  refine eA.use ?_
  rintro _ _ ⟨rfl, rfl⟩
  rw [W_evs0]
  have s2 := s1.app (g := [PO.lst xsA])
  have lo := s1.1.lt
  refine W.mono (pick_W (n := k) (by omega) s2.1 (by omega) get_new (by omega) (by simp [xsA]) (by simp [xsA])) ?_ (fun _ _ z => z.elim)
  rintro r h2 ⟨mr, s3⟩
  obtain ⟨s, rfl, ab⟩ := ab6 mr
  simp only [List.set_cons_succ, List.set_cons_zero]
  have s4 := s2.trans s3
  rw [KF_nx, W_cons, W_for, W_evs1, W_k, W_evs0, show (3 : Int) = ((3 : Nat) : Int) from rfl, its_rngN (by omega)]
  generalize hN : rngL 0 3 = R
  have lR : R.length = 3 := by rw [← hN, rngL_len]
  clear hN
  refine KL_of (W_forL (fun r ρ g => r.length ≤ 3 ∧ ∃ m z5 z8 z9, m + 1000 * r.length ≤ 3100 ∧ St h.length m h g ∧ ρ = [v0, some (.int (turn : Nat)), some (.int c), some (.ref h.length), some (.str s), z5, v6, v7, z8, z9] ∧ (r.length < 3 → ∃ t, z8 = some (enc t) ∧ wf s t = true ∧ dep t ≤ 7 ∧ sz t ≤ 60)) ?_ ?_ _ _ _ ⟨by show R.length ≤ 3; omega, _, v5, v8, v9, by show _ + 1000 * R.length ≤ 3100; omega, s4, rfl, fun z => by have : R.length < 3 := z; omega⟩)
  · rintro x r ρ g ⟨lr, m, z5, z8, z9, lm, sg, rfl, _⟩
    refine ⟨rfl, ?_⟩
    simp only [List.length_cons] at lm lr
    rw [W_step]
    simp only [List.set_cons_succ, List.set_cons_zero]
    refine turn_W (by omega) ab sg.1 (by omega) fun g' z9' t w d z s' => ?_
    rw [KR_nx]
    exact ⟨by omega, m + 1000, _, _, z9', by omega, sg.trans s', rfl, fun _ => ⟨t, rfl, w, d, z⟩⟩
  · rintro ρ g ⟨_, m, z5, z8, z9, lm, sg, rfl, ex⟩
    refine ⟨rfl, ?_⟩
    obtain ⟨t, rfl, w, d, z⟩ := ex (by simp)
    simp only [List.length_nil] at lm
    rw [KF_nx, W_cons, W_nm]
    refine odd1_W ?_
    simp only [List.set_cons_succ, List.set_cons_zero]
    have lg := sg.len
    have s5 := ((sg.app (g := [PO.lst [.str ['a', 'n', 'y']]])).app (g := [PO.dic []])).app (g := [PO.lst (xs1 g.length (g.length + 1))])
    have e6 : (g ++ [PO.lst [.str ['a', 'n', 'y']]] ++ [PO.dic []] ++ [PO.lst (xs1 g.length (g.length + 1))])[g.length + 2]? = some (.lst (xs1 g.length (g.length + 1))) := by simp
    have e61 : (g ++ [PO.lst [.str ['a', 'n', 'y']]] ++ [PO.dic []] ++ [PO.lst (xs1 g.length (g.length + 1))])[g.length]? = some (.lst [.str ['a', 'n', 'y']]) := by simp
    have e62 : (g ++ [PO.lst [.str ['a', 'n', 'y']]] ++ [PO.dic []] ++ [PO.lst (xs1 g.length (g.length + 1))])[g.length + 1]? = some (.dic []) := by simp
    generalize g ++ [PO.lst [.str ['a', 'n', 'y']]] ++ [PO.dic []] ++ [PO.lst (xs1 g.length (g.length + 1))] = g1 at *
    have lo2 : h.length < g.length := sg.1.lt
    rw [KF_nx, W_cons, W_nm, W_cal, W_evs1, W_okI (ev_v rfl), W_evs1, W_okI (ev_v rfl), W_evs0]
    refine W.mono (pick_W (n := k) (by omega) s5.1 (by omega) e6 (by omega) (by simp [xs1]) (by simp [xs1])) ?_ (fun _ _ z => z.elim)
    rintro v g2 ⟨mv, s6⟩
    obtain ⟨f, nb⟩ := odd_p (s6.2 _ _ e61 (by omega)) (s6.2 _ _ e62 (by omega)) ab.nx mv
    simp only [List.set_cons_succ, List.set_cons_zero]
    rw [KF_nx, W_cons]
    refine if1_W (by omega) ab f nb fun g3 p3 => ?_
    have s7 := (s5.trans s6).pf p3
    rw [KF_nx, W_cons, W_nm, W_cal, W_evs1, W_okI (ev_v rfl), W_evs1]
    refine odd2_W ab.len rfl ?_
    rw [W_evs0]
    have s8 := (s7.app (g := [PO.lst [.str ['a']]])).app (g := [PO.lst (xs2 s g3.length)])
    have e8 : (g3 ++ [PO.lst [.str ['a']]] ++ [PO.lst (xs2 s g3.length)])[g3.length + 1]? = some (.lst (xs2 s g3.length)) := by simp
    have e81 : (g3 ++ [PO.lst [.str ['a']]] ++ [PO.lst (xs2 s g3.length)])[g3.length]? = some (.lst [.str ['a']]) := by simp
    have lo3 : h.length < g3.length := s7.1.lt
    generalize g3 ++ [PO.lst [.str ['a']]] ++ [PO.lst (xs2 s g3.length)] = g4 at *
    refine W.mono (pick_W (n := k) (by omega) s8.1 (by omega) e8 (by omega) (by simp [xs2]) (by simp [xs2])) ?_ (fun _ _ z => z.elim)
    rintro u g5 ⟨mu, s9⟩
    obtain ⟨ty, et, od, tb⟩ := odd_t (by have := ab.len; omega) (s9.2 _ _ e81 (by omega)) ab.nx ab.nA ab.ns mu
    simp only [List.set_cons_succ, List.set_cons_zero]
    rw [KF_nx, W_cons]
    refine if2_W (by omega) ab w d z et od tb fun g6 p6 => ?_
    rw [KF_nx, W_nil]
    exact ⟨_, rfl, rfl, kp_pf ((s8.trans s9).pf p6).2⟩
end
theorem law_ok (ns : List Int) (_ : ns.length ≤ 63) : ∃ h', callN tab 50 (.f "law") [.ref 0] [.frz (ns.map .int)] = .ok (.bl true) h' := by
  refine law_frame (i := 1) (j := 2) (N := 5) (nl := 9) (cellB := cellB) (lastB := [.ret (.k (.bl true))]) (by decide) (by decide) (by decide) (by rw [show tab (.f "law") = some c_law from rfl, law_body]) (fun k hk ρ h turn c hr ht => ?_) (fun k hk ρ h hr => ?_) ns
  · obtain ⟨a, b, c', d, e, f, g, h', i, j, rfl⟩ := len10 hr
    exact cell_W (by omega) ht
  · rw [W_cons, W_ret, W_k]
    rfl
end Mk14
theorem PySem.Challenge.cw_smallasks_k14_matches_by_splitting_holds : PySem.Challenge.rw_smallasks_k14_matches_by_splitting.Holds :=
  Mk14.holds_of Mk14.law_ok
